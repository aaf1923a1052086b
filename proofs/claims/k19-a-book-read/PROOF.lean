import PyProof.Rows.All
import Wide.All
import OpenK.AllK
import Wide.FinOn
import HandS.ForMost
import HandS.Walk
import HandS.Evl
import HandS.ForExc
import HandS.StrMore
import HandS.IsInst
import KE.GoesEnum
import HandS.Small
import HandS.TupAny
import HandS.Deep
import HandS.Style
import HandS.Conv
import HandS.Zip
import HandS.Rev
import KE.KeyNested
import HandS.RaiseMore
import HandS.Replace
import HandS.ExcInit
import HandS.ExcField
import HandS.ExcIs
import KE.KIsAll
import KE.KExcIs
import HandS.RevTup
import PyProof.ListNew
import PyProof.Rows.StrRules
import HandS.SortRule
import HandS.TupLe
import HandS.DictEq
import HandS.More
import HandS.WideBits
import HandS.CallSlots
import HandS.Defaults
import HandS.Remove
import HandS.Strs
import PyProof.Rows.StrInSeq3
import PyProof.CollectStr
import KE.GoesZip
import PyProof.StrLawsIn
import HandS.ExcValue
import HandS.TupSets
import KE.KStrOpen
import HandS.Codes
import PySem.Challenge.RW_crosswright_k19_a_book_read
set_option Elab.async false
set_option linter.all false
set_option maxRecDepth 100000
set_option maxHeartbeats 4000000
namespace CV
open PySem L2
abbrev Fg := PySem.W.Frag
/-- a text by its signs -/
abbrev S (l : List Nat) : Str := ⟨l.toArray⟩
theorem S_tl (x : Str) : S x.cps.toList = x := by cases x; simp [S]
theorem S_len (l : List Nat) : (S l).length = l.length := by simp [Str.length]
theorem S_app (l m : List Nat) : S l ++ S m = S (l ++ m) := by
  show Str.append (S l) (S m) = _
  simp [Str.append]
theorem S_inj {l m : List Nat} (h : S l = S m) : l = m := by
  have := congrArg (fun z : Str => z.cps.toList) h
  simpa using this
/-! ### operators for ints, texts, lists, tuples at once -/
def uSub : R2 := rI0 fun i j => .int (i - j)
theorem op_uSub {X : Cx} : OpR X (binaryOp .Sub) uSub := op_sub
def uMul : R2 := fun x y H Q => rI CMul (fun i j => .int (i * j)) x y H Q ∨ rRep x y H Q
theorem op_uMul {X : Cx} : OpR X (binaryOp .Mult) uMul := op_mul.or op_rep
def uDiv : R2 := rI CDiv fun i j => .int (i / j)
theorem op_uDiv {X : Cx} : OpR X (binaryOp .FloorDiv) uDiv := op_fdiv
def uMod : R2 := rI (fun _ j => 0 < j) fun i j => .int (i % j)
theorem op_uMod {X : Cx} : OpR X (binaryOp .Mod) uMod := op_mod
def uPow : R2 := rI CPow fun i j => .int (i ^ j.toNat)
theorem op_uPow {X : Cx} : OpR X (binaryOp .Pow) uPow := op_pow
def uLt : R2 := rI0 fun i j => .bl (decide (i < j))
theorem op_uLt {X : Cx} : OpR X (compareOp .Lt) uLt := op_lt
def uLe : R2 := rI0 fun i j => .bl (decide (i ≤ j))
theorem op_uLe {X : Cx} : OpR X (compareOp .LtE) uLe := op_le
def uGe : R2 := rI0 fun i j => .bl (decide (j ≤ i))
theorem op_uGe {X : Cx} : OpR X (compareOp .GtE) uGe := op_ge
def uEq (K : Fg) : R2 := rEqD K
theorem op_uEq {X : Cx} (hu : X.A.units + 64 < cLine) : OpR X (compareOp .Eq) (uEq X.K) := op_eqD hu
def uNe (K : Fg) : R2 := rNeD K
theorem op_uNe {X : Cx} (hu : X.A.units + 64 < cLine) : OpR X (compareOp .NotEq) (uNe X.K) := op_neD hu
def uLen (K : Fg) : List V → Hp → VK → Prop := fun xs H Q => (∃ p ys, xs = [.ref p] ∧ (SqL K H p ys ∨ SqT K H p ys) ∧ Q (.int ys.length) H) ∨ (∃ z, xs = [.str z] ∧ z.length ≤ sizeLine ∧ Q (.int z.length) H)
theorem call_uLen {X : Cx} : CallR X (.builtin "len") (uLen X.K) := call_len_seq.or call_len_str
/-- the signs from lo to hi -/
def cutL {α : Type} (l : List α) (lo hi : Option Int) : List α := (l.drop (HT.sIx l.length 0 lo)).take (HT.sIx l.length l.length hi - HT.sIx l.length 0 lo)
theorem cutS_S (l : List Nat) (lo hi : Option Int) : cutS (S l) lo hi = S (cutL l lo hi) := by
  unfold cutS cutL
  rw [S_len]
theorem cutL_from {α : Type} (l : List α) (k : Nat) : cutL l (some (k : Int)) none = l.drop k := by
  unfold cutL
  rw [HT.sIx_none, HT.sIx_nat, List.take_of_length_le (by rw [List.length_drop]; omega)]
  by_cases h : k ≤ l.length
  · rw [Nat.min_eq_left h]
  · rw [Nat.min_eq_right (by omega), List.drop_eq_nil_of_le (Nat.le_refl _), List.drop_eq_nil_of_le (by omega)]
theorem cutL_to {α : Type} (l : List α) (k : Nat) : cutL l none (some (k : Int)) = l.take k := by
  unfold cutL
  rw [HT.sIx_none, HT.sIx_nat, List.drop_zero, Nat.sub_zero]
  by_cases h : k ≤ l.length
  · rw [Nat.min_eq_left h]
  · rw [Nat.min_eq_right (by omega), List.take_of_length_le (Nat.le_refl _), List.take_of_length_le (by omega)]
theorem cutL_mid {α : Type} (l : List α) (k m : Nat) : cutL l (some (k : Int)) (some (m : Int)) = (l.drop k).take (m - k) := by
  unfold cutL
  rw [HT.sIx_nat, HT.sIx_nat]
  by_cases h : k ≤ l.length
  · rw [Nat.min_eq_left h]
    by_cases h2 : m ≤ l.length
    · rw [Nat.min_eq_left h2]
    · rw [Nat.min_eq_right (by omega), List.take_of_length_le (by rw [List.length_drop]; omega), List.take_of_length_le (by rw [List.length_drop]; omega)]
  · have e : min k l.length = l.length := Nat.min_eq_right (by omega)
    rw [e, List.drop_eq_nil_of_le (Nat.le_refl _), List.drop_eq_nil_of_le (by omega)]
    simp
def joinL (s : List Nat) : List (List Nat) → List Nat
  | [] => []
  | [x] => x
  | x :: y :: r => x ++ s ++ joinL s (y :: r)
theorem join_S (s : List Nat) : ∀ ls : List (List Nat), Str.join (S s) (ls.map S) = S (joinL s ls)
  | [] => rfl
  | [x] => rfl
  | x :: y :: r => by
    show S x ++ S s ++ Str.join (S s) (S y :: r.map S) = _
    have ih := join_S s (y :: r)
    rw [List.map_cons] at ih
    rw [ih, S_app, S_app]
    rfl
abbrev uJoin (K : Fg) : V → List V → Hp → VK → Prop := fun x xs H Q => ∃ a p, ∃ ys : List Str, x = .str a ∧ xs = [.ref p] ∧ (SqL K H p (ys.map V.str) ∨ SqT K H p (ys.map V.str)) ∧ (ys.map (·.length)).sum + ys.length * a.length ≤ 16777216 ∧ Q (.str (Txt.join a ys)) H
def uIsi (K : Fg) : List V → Hp → VK → Prop := fun xs H Q => rIsi K xs H Q ∨ rIsiT K xs H Q
theorem call_uIsi {X : Cx} : CallR X (.builtin "isinstance") (uIsi X.K) := call_isi.or call_isiT
def iSq (K : Fg) (tl : TE) : TI := fun σ H R => tl σ H fun x H1 => (∃ a, x = .ref a ∧ (∃ xs, SqL K H1 a xs) ∧ R (Itl K a) H1) ∨ ((∃ a, x = .ref a ∧ (∃ xs, SqT K H1 a xs) ∧ R (Itt K a) H1) ∨ (∃ z, x = .str z ∧ R (Its z) H1))
section
variable {X : Cx} {tg : Expr}
/-- an iterator over a value that is there -/
def IterV (X : Cx) (tg : Expr) (r : V → Hp → (It → Hp → Prop) → Prop) : Prop := ∀ (pins : List (Addr × Obj)) (σ : L2.St) (H : Hp) (s : Shared) (x : V) (v : Value) (R : It → Hp → Prop), Inv X pins σ H s → RelV x v → r x H R →
  wpAny (model X.prog X.w) X.A (pyIter v) (PIE X pins σ tg R) X.xe s
theorem pi_ofV {r : V → Hp → (It → Hp → Prop) → Prop} {l : Expr} {tl : TE} (h : IterV X tg r) (hl : PE X l tl) : PI X tg l (fun σ H R => tl σ H fun x H1 => r x H1 R) :=
  ⟨fun pins s σ H R I hw => L2.thn (hl.run pins s σ H _ I hw) fun v s1 ⟨x, H1, I1, r1, q1⟩ => h pins σ H1 s1 x v R I1 r1 q1⟩
theorem IterV.or {r r' : V → Hp → (It → Hp → Prop) → Prop} (h : IterV X tg r) (h' : IterV X tg r') : IterV X tg (fun x H R => r x H R ∨ r' x H R) := fun pins σ H s x v R I rv q => q.elim (h pins σ H s x v R I rv) (h' pins σ H s x v R I rv)
end
section
variable {X : Cx} {tg : Expr}
theorem it_lst : IterV X tg (fun x H R => ∃ a, x = .ref a ∧ (∃ xs, SqL X.K H a xs) ∧ R (Itl X.K a) H) := fun pins σ H s x v R I rv ⟨a, e, ⟨xs, hq⟩, q⟩ => by
  subst e
  cases rv
  obtain ⟨us, _, pl, _⟩ := I.list hq
  exact wpAny_pyIter_list pl.isList (pi_one (tk := s.toks) I _ (turn_list a _) ⟨_, Heap.get?_push_size _ rfl, rfl, rfl⟩ q)
theorem it_tup : IterV X tg (fun x H R => ∃ a, x = .ref a ∧ (∃ xs, SqT X.K H a xs) ∧ R (Itt X.K a) H) := fun pins σ H s x v R I rv ⟨a, e, ⟨xs, hq⟩, q⟩ => by
  subst e
  cases rv
  obtain ⟨us, _, pt, _⟩ := I.tuple hq
  have pt' : s.heap.IsTuple a us.toArray := pt
  exact wpAny_pyIter_tuple pt' (pi_one (tk := s.toks) I _ (turn_tuple a _) ⟨_, Heap.get?_push_size _ rfl, rfl, rfl⟩ q)
theorem it_str : IterV X tg (fun x H R => ∃ z, x = .str z ∧ R (Its z) H) := fun pins σ H s x v R I rv ⟨z, e, q⟩ => by
  subst e
  obtain ⟨u, e2⟩ := rv
  subst e2
  by_cases ha : z.cps.all (· < 128) = true
  · exact wpAny_pyIter_ascii ha (pi_one (tk := s.toks) I _ (turn_str _ z u _ (Or.inl rfl)) ⟨_, Heap.get?_push_size _ rfl, rfl, rfl⟩ q)
  · have hb : z.cps.all (· < 128) = false := by simpa using ha
    exact wpAny_pyIter_wide hb (pi_one (tk := s.toks) I _ (turn_str _ z u _ (Or.inr rfl)) ⟨_, Heap.get?_push_size _ rfl, rfl, rfl⟩ q)
theorem pi_sq {l : Expr} {tl : TE} (hl : PE X l tl) : PI X tg l (iSq X.K tl) := pi_ofV (it_lst.or (it_tup.or it_str)) hl
end
theorem wipe_get (σ : L2.St) (vs : List Nat) (k : Nat) : (wipe σ vs)[k]? = if k ∈ vs then (σ[k]?).map fun _ => none else σ[k]? := by
  induction vs with
  | nil => simp [wipe]
  | cons i vs ih =>
    show ((wipe σ vs).set i none)[k]? = _
    by_cases h : k = i
    · subst h
      by_cases hl : k < (wipe σ vs).length
      · rw [List.getElem?_set_self hl]
        have hl2 : k < σ.length := by rw [wipe_length] at hl; exact hl
        simp [hl2]
      · have hl2 : ¬ k < σ.length := by rw [wipe_length] at hl; exact hl
        rw [List.getElem?_eq_none (by rw [List.length_set]; omega)]
        simp [hl2]
    · rw [List.getElem?_set_ne (Ne.symm h), ih]
      simp [h]
theorem wipe_set {σ : L2.St} {vs : List Nat} {j : Nat} {x : Option V} (h : j ∈ vs) : wipe (σ.set j x) vs = wipe σ vs := by
  apply List.ext_getElem?
  intro k
  rw [wipe_get, wipe_get]
  by_cases hk : k = j
  · subst hk
    rw [if_pos h, if_pos h]
    by_cases hl : k < σ.length
    · rw [List.getElem?_set_self hl]; simp [hl]
    · rw [List.getElem?_eq_none (by rw [List.length_set]; omega), List.getElem?_eq_none (by omega)]
  · rw [List.getElem?_set_ne (Ne.symm hk)]
theorem wipe_wipe (σ : L2.St) (vs : List Nat) : wipe (wipe σ vs) vs = wipe σ vs := by
  apply List.ext_getElem?
  intro k
  rw [wipe_get, wipe_get]
  by_cases h : k ∈ vs
  · rw [if_pos h, if_pos h]
    cases σ[k]? <;> rfl
  · rw [if_neg h, if_neg h]
open PyProof.Rows (envOfC)
/-! ### defs as the top has them -/
def FunAt (K : Fg) (mg : Str → Option Value) (x : Str) (st : Stmt) : Prop := ∃ (f : Addr) (fd : FuncData), mg x = some (.ref f) ∧ Fun K x x st f fd
structure DefOk (P : Program) (w : World) (K : Fg) (mg : Str → Option Value) (base : Heap) (CX : CXT) (x : Str) (ps : List Str) (k : Nat) (sp : Sp) : Prop where
  ex : ∃ (f : Addr) (fd : FuncData), mg x = some (.ref f) ∧ PySem.W.keepIn K (.ref f) = true ∧ Binds K fd ps [] ∧ FnOk P w K mg base CX k f fd ps sp
section
variable {P : Program} {w : World} {K : Fg} {mg : Str → Option Value} {base : Heap}
end
section
variable {X : Cx} {CX : CXT} {k : Nat} {ps : List Str} {sp : Sp} {E : XK} {x : Str} {p pos : Pos} {e : Expr} {es : List Expr} {t : TA}
theorem pe_strL {X : Cx} {y : Str} {l : List Nat} {j : Nat} {pos : Pos} (h : y = S l) : PE X (.Constant (.str y) j pos) (tC (.str (S l))) := by
  subst h
  exact pe_str
theorem pe_globE {X : Cx} {y : Str} {v : V} {pos : Pos} (h : ∃ u, X.mg y = some u ∧ RelV v u) (hg : Gl X y := by rfl) (hd : (y == ("__debug__" : Str)) = false := by decide) : PE X (.Name y pos) (tC v) := by
  obtain ⟨u, hm, r⟩ := h
  exact pe_glob hg hm r hd
end
abbrev uSplit : V → List V → Hp → VK → Prop := fun x xs H Q => ∃ a b, x = .str a ∧ xs = [.str b] ∧ (b.length == 0) = false ∧ a.length + 2 ≤ sizeLine ∧ rNewStrs (Txt.split a b) H Q
theorem kit_eq (a : String) : L2.kitB a a = some true := by
  unfold L2.kitB
  simp
theorem kit_NoneType_str : L2.kitB "NoneType" "str" = some false := by decide +kernel
theorem kit_NoneType_int : L2.kitB "NoneType" "int" = some false := by decide +kernel
theorem kit_NoneType_bool : L2.kitB "NoneType" "bool" = some false := by decide +kernel
theorem kit_NoneType_tuple : L2.kitB "NoneType" "tuple" = some false := by decide +kernel
theorem kit_NoneType_list : L2.kitB "NoneType" "list" = some false := by decide +kernel
theorem kit_bool_str : L2.kitB "bool" "str" = some false := by decide +kernel
theorem kit_bool_int : L2.kitB "bool" "int" = some true := by decide +kernel
theorem kit_bool_tuple : L2.kitB "bool" "tuple" = some false := by decide +kernel
theorem kit_bool_list : L2.kitB "bool" "list" = some false := by decide +kernel
theorem kit_int_str : L2.kitB "int" "str" = some false := by decide +kernel
theorem kit_int_bool : L2.kitB "int" "bool" = some false := by decide +kernel
theorem kit_int_tuple : L2.kitB "int" "tuple" = some false := by decide +kernel
theorem kit_int_list : L2.kitB "int" "list" = some false := by decide +kernel
theorem kit_str_int : L2.kitB "str" "int" = some false := by decide +kernel
theorem kit_str_bool : L2.kitB "str" "bool" = some false := by decide +kernel
theorem kit_str_tuple : L2.kitB "str" "tuple" = some false := by decide +kernel
theorem kit_str_list : L2.kitB "str" "list" = some false := by decide +kernel
theorem kit_tuple_str : L2.kitB "tuple" "str" = some false := by decide +kernel
theorem kit_tuple_int : L2.kitB "tuple" "int" = some false := by decide +kernel
theorem kit_tuple_bool : L2.kitB "tuple" "bool" = some false := by decide +kernel
theorem kit_tuple_list : L2.kitB "tuple" "list" = some false := by decide +kernel
theorem kit_list_str : L2.kitB "list" "str" = some false := by decide +kernel
theorem kit_list_int : L2.kitB "list" "int" = some false := by decide +kernel
theorem kit_list_bool : L2.kitB "list" "bool" = some false := by decide +kernel
theorem kit_list_tuple : L2.kitB "list" "tuple" = some false := by decide +kernel
theorem kit_dict_str : L2.kitB "dict" "str" = some false := by decide +kernel
theorem kit_dict_int : L2.kitB "dict" "int" = some false := by decide +kernel
theorem kit_dict_bool : L2.kitB "dict" "bool" = some false := by decide +kernel
theorem kit_dict_tuple : L2.kitB "dict" "tuple" = some false := by decide +kernel
theorem kit_dict_list : L2.kitB "dict" "list" = some false := by decide +kernel
theorem split_joinL {a : Nat} (ha : a < 256) {ls : List (List Nat)} (hne : ls ≠ []) (h : ∀ l ∈ ls, a ∉ l) : Txt.split (S (joinL [a] ls)) (S [a]) = ls.map S := by
  have e : Txt.split (Txt.join (S [a]) (ls.map S)) (S [a]) = ls.map S :=
    TL.split_join (y := S [a]) (s := a) (S := []) (parts := ls.map S) rfl (by simpa [S] using ha) (by simpa using hne) fun p hp => by
      obtain ⟨l, hl, e⟩ := List.mem_map.mp hp
      subst e
      exact h l hl
  rw [TL.join_eq, join_S] at e
  exact e
/-! ### enumerate over a tuple, over a text; zip -/
section
variable {X : Cx} {pins : List (Addr × Obj)} {σ : L2.St} {H : Hp} {s : Shared} {E : Value → Shared → Prop}
theorem enum_item {e it : Addr} {fp : List Addr} {n i : Nat} {Pw : Nat → Value → Prop} {Sw : Nat → Heap → Prop} {old : Value} {elts : List Expr} {kk : Nat} {tpos : Pos} {Y : V → Hp → Prop} {B : Heap → Prop}
    (I : Inv X pins σ H s) (Dw : Draws X.prog X.w X.A.in1 it fp n Pw Sw) (he : IsEnum s.heap e it ((i : Nat) : Int) old) (hst : Sw i s.heap) (hi : i < n) (hne : e ≠ it) (hef : e ∉ fp) (hf : ∀ b ∈ [e, it], FpOk X pins H b)
    (hy : ∀ u, Pw i u → ∃ x, RelV x u ∧ ∀ T, H T = none → Y (.ref T) (upd H T (.tup [.int (i : Nat), x]))) (hB : ∀ h, Sw (i + 1) h → B h) :
    wpAny (model X.prog X.w) X.A (pyNext (.ref e)) (fun r s1 => ∃ u, r = some u ∧ wpAny (model X.prog X.w) X.A (letOwnedTupleGo (.Tuple elts kk tpos) (.ref e) u) (fun _ s2 => ∃ x H', Inv X pins σ H' s2 ∧ RelV x u ∧ Y x H' ∧
      ((∃ old, IsEnum s2.heap e it ((i + 1 : Nat) : Int) old) ∧ B s2.heap ∧ e ≠ it) ∧ ∀ b ∈ [e, it], H' b = none) E s1) E s := by
  have le : e < s.heap.objs.size := Heap.lt_size he
  have li : it < s.heap.objs.size := by
    obtain ⟨o, q⟩ := Dw.live i _ hst
    exact Heap.lt_size q
  refine wpAny_pyNext_enum_itemD Dw he hst hi hne hef fun u h1 tk hu out st1 tup _ keep => ?_
  refine ⟨_, rfl, wpAny_letOwnedTupleGo_enum (s := { s with heap := h1, toks := tk + 1 }) out fun h2 he2 sb => ?_⟩
  have tup2 : h2.get? s.heap.objs.size = some { cls := .type "tuple", data := .seq #[.int i tk, u] } := (sb.2 _ (Nat.ne_of_gt le)).trans tup
  obtain ⟨x, rx, hY⟩ := hy u hu
  have made : ObjOk X.prog X.w (upd H s.heap.objs.size (.tup [.int (i : Nat), x])) h2 s.heap.objs.size (.tup [.int (i : Nat), x]) :=
    ⟨by show 2 ≤ sizeLine; decide, [.int i tk, u], .cons ⟨_, rfl⟩ (.cons rx .nil), ⟨_, tup2, rfl, _, rfl⟩⟩
  have J : Inv X pins σ (upd H s.heap.objs.size (.tup [.int (i : Nat), x])) { s with heap := h2, toks := tk + 1 } := by
    refine I.turnedNew (ch := [e, it]) (fun b ob nb q => ?_) hf (Nat.le_refl _) made
    have n1 : b ≠ e := fun z => nb (by simp [z])
    have n2 : b ≠ it := fun z => nb (by simp [z])
    exact (sb.2 b n1).trans (keep b ob n1 n2 q)
  refine ⟨.ref s.heap.objs.size, _, J, rfl, hY _ (I.hok.fresh (Nat.le_refl _)), ⟨⟨u, ?_⟩, hB _ (Dw.frame _ _ _ st1 fun b hb o q => (sb.2 b fun z => hef (z ▸ hb)).trans q), hne⟩, fun b hb => ?_⟩
  · have z : ((i + 1 : Nat) : Int) = (i : Int) + 1 := by omega
    rw [z]
    exact he2
  · have lb : b < s.heap.objs.size := by
      rcases (show b = e ∨ b = it by simpa using hb) with z | z
      · rw [z]; exact le
      · rw [z]; exact li
    rw [upd_ne (Nat.ne_of_lt lb)]
    exact (hf b hb).1
theorem enum_done {e it : Addr} {fp : List Addr} {n : Nat} {Pw : Nat → Value → Prop} {Sw : Nat → Heap → Prop} {i : Int} {old : Value}
    (I : Inv X pins σ H s) (Dw : Draws X.prog X.w X.A.in1 it fp n Pw Sw) (he : IsEnum s.heap e it i old) (hst : Sw n s.heap) (hf : FpOk X pins H it) :
    wpAny (model X.prog X.w) X.A (pyNext (.ref e)) (fun r s1 => r = none ∧ Inv X pins σ H s1) E s := by
  obtain ⟨f0, f1, f2, f3, f4, f5⟩ := hf
  exact wpAny_pyNext_enum_endD Dw he hst fun h1 ext => ⟨rfl, I.turned (t' := s.toks) (fun b o nb q => ext b o nb q) f0 f1 f3 f4 f5⟩
end
def Iet (K : Fg) (a : Addr) : It :=
  ⟨fun i H => ∃ (xs : List V) (x : V), SqT K H a xs ∧ xs[i]? = some x, fun i H v H' => ∃ T x, v = .ref T ∧ H T = none ∧ H' = upd H T (.tup [.int (i : Nat), x]) ∧ ∀ xs, SqT K H a xs → xs[i]? = some x, fun i H => ∃ xs : List V, SqT K H a xs ∧ i = xs.length⟩
def Ies (z : Str) : It :=
  ⟨fun i _ => i < z.cps.size, fun i H v H' => ∃ T c, v = .ref T ∧ H T = none ∧ H' = upd H T (.tup [.int (i : Nat), .str ⟨#[c]⟩]) ∧ z.cps[i]? = some c, fun i _ => i = z.cps.size⟩
section
variable {P : Program} {w : World} {K : Fg} {elts : List Expr} {kk : Nat} {tpos : Pos}
theorem turn_enumT (a e it : Addr) : Turn P w K (.Tuple elts kk tpos) (Iet K a) [e, it] e (fun i h => (∃ old, IsEnum h e it ((i : Nat) : Int) old) ∧ (h.IsTupleIter it a i) ∧ e ≠ it) where
  mem := by simp
  obj := fun i h ⟨⟨old, he⟩, ⟨o, ho, hc, hd⟩, _⟩ b hb => by
    rcases (show b = e ∨ b = it by simpa using hb) with z | z
    · subst z
      exact ⟨_, he, fun v q => nomatch q⟩
    · subst z
      exact ⟨o, ho, fun v q => by rw [hd] at q; cases q⟩
  keep := fun i h h' ⟨⟨old, he⟩, hi, ne⟩ k => ⟨⟨old, k e (by simp) _ he⟩, hi.at fun o q => k it (by simp) o q, ne⟩
  item := fun X hP hw hK hc i pins s σ H E I hf ⟨⟨old, he⟩, hit, ne⟩ ⟨xs, x, hq, hx⟩ => by
    subst hP hw hK
    obtain ⟨us, rv, pt, _⟩ := I.tuple hq
    obtain ⟨u, hu, ru⟩ := rv.get hx
    have hlt : i < us.toArray.size := by
      have := (List.getElem?_eq_some_iff.mp hu).1
      simpa using this
    have ht : s.heap.IsTuple a us.toArray := pt
    have na : a ≠ it := fun z => by
      obtain ⟨o, q1, q2, q3⟩ := hit
      obtain ⟨o2, q4, q5, _⟩ := pt
      rw [z, q1] at q4
      cases q4
      rw [q2] at q5
      simp at q5
    have ea : e ≠ a := fun z => by
      obtain ⟨o2, q4, q5, _⟩ := pt
      have he2 := he
      unfold IsEnum at he2
      rw [z, q4] at he2
      cases he2
      simp at q5
    refine enum_item I (Draws.tuple (A := X.A.in1) (I.ok.hd hc) it a na us.toArray) he ⟨hit, ht⟩ hlt ne (by simp [ne, ea]) hf (fun u' hu' => ?_) fun h q => q.1
    have e1 : us[i]? = some u' := by simpa using hu'
    rw [hu] at e1
    cases e1
    exact ⟨x, ru, fun T hT => ⟨T, x, rfl, hT, rfl, fun ys hy => by rw [I.tuple_inj hy hq]; exact hx⟩⟩
  done := fun X hP hw hK hc i pins s σ H E I hf ⟨⟨old, he⟩, hit, ne⟩ ⟨xs, hq, hx⟩ => by
    subst hP hw hK
    obtain ⟨us, rv, pt, _⟩ := I.tuple hq
    have ht : s.heap.IsTuple a us.toArray := pt
    have na : a ≠ it := fun z => by
      obtain ⟨o, q1, q2, q3⟩ := hit
      obtain ⟨o2, q4, q5, _⟩ := pt
      rw [z, q1] at q4
      cases q4
      rw [q2] at q5
      simp at q5
    have ei : i = us.toArray.size := by
      have := rv.length
      simp
      omega
    subst ei
    exact enum_done I (Draws.tuple (A := X.A.in1) (I.ok.hd hc) it a na us.toArray) he ⟨hit, ht⟩ (hf it (by simp))
  self := fun A i s Q E ⟨⟨_, he⟩, _⟩ h => wpAny_pyIter_enum he h
theorem turn_enumS (e it : Addr) (z : Str) (t : Tok) : Turn P w K (.Tuple elts kk tpos) (Ies z) [e, it] e (fun i h => (∃ old, IsEnum h e it ((i : Nat) : Int) old) ∧ (h.IsStrIter it (strIterType z) z t i) ∧ e ≠ it) where
  mem := by simp
  obj := fun i h ⟨⟨old, he⟩, ⟨o, ho, hc, hd⟩, _⟩ b hb => by
    rcases (show b = e ∨ b = it by simpa using hb) with q | q
    · subst q
      exact ⟨_, he, fun v q => nomatch q⟩
    · subst q
      exact ⟨o, ho, fun v q => by rw [hd] at q; cases q⟩
  keep := fun i h h' ⟨⟨old, he⟩, ⟨o, ho, hc, hd⟩, ne⟩ k => ⟨⟨old, k e (by simp) _ he⟩, ⟨o, k it (by simp) _ ho, hc, hd⟩, ne⟩
  item := fun X hP hw hK hc i pins s σ H E I hf ⟨⟨old, he⟩, hit, ne⟩ hlt => by
    subst hP hw hK
    refine enum_item I (Draws.text (A := X.A.in1) (I.ok.hd hc) it z t) he hit hlt ne (by simp [ne]) hf (fun u' hu' => ?_) fun h q => q
    obtain ⟨c, u, h1, h2⟩ := hu'
    subst h2
    exact ⟨.str ⟨#[c]⟩, ⟨u, rfl⟩, fun T hT => ⟨T, c, rfl, hT, rfl, h1⟩⟩
  done := fun X hP hw hK hc i pins s σ H E I hf ⟨⟨old, he⟩, hit, ne⟩ hlt => by
    subst hP hw hK
    have e1 : i = z.cps.size := hlt
    subst e1
    exact enum_done I (Draws.text (A := X.A.in1) (I.ok.hd hc) it z t) he hit (hf it (by simp))
  self := fun A i s Q E ⟨⟨_, he⟩, _⟩ h => wpAny_pyIter_enum he h
end
theorem meets_enum1 {v : Value} {ob : Obj} {G : Heap → Prop} (B : Begins v ob G) :
    Meets (Builtin.«enumerate.__new__» ⟨[.type "enumerate", v], []⟩) (fun _ R s => G s.heap ∧ R (.ok (.ret (.ref (s.heap.push ob).objs.size)))
      { s with heap := (s.heap.push ob).push { cls := .type "enumerate", data := .fields #[.none, .bool false, .ref s.heap.objs.size, rawInt 0, .none, .none] } }) :=
  .of_wp fun prog w A R st0 hyp => by
    obtain ⟨hh, gs, dr, tt, oo⟩ := st0
    obtain ⟨hG, fin⟩ := hyp
    have isub := sub_enumerate
    have go : ∀ {A' : Around} {E : Value → Shared → Prop} {Q : Value → Shared → Prop}, Q (.ref hh.objs.size) ⟨hh.push ob, gs, dr, tt, oo⟩ → wpAny (model prog w) A' (pyIter v) Q E ⟨hh, gs, dr, tt, oo⟩ := fun z =>
      B.iter prog w _ _ ⟨hh, gs, dr, tt, oo⟩ _ hG z
    wp_walk using go
    refine wpAny_stack_any fun fr => wpAny_pure ?_
    split
    · rename_i cc _ _ _ _ _
      by_cases hc : (cc == Value.type "enumerate") = true
      · rw [hc]
        wp_walk using go
        exact ⟨_, rfl, fin⟩
      · have hc' : (cc == Value.type "enumerate") = false := by simpa using hc
        rw [hc']
        wp_walk using go
        exact ⟨_, rfl, fin⟩
    · wp_walk using go
      exact ⟨_, rfl, fin⟩
section
variable {prog : Program} {w : World} {A : Around} {E : Value → Shared → Prop} {s : Shared}
theorem call_enum1 {v : Value} {ob : Obj} {G : Heap → Prop} {Q : Value → Shared → Prop} (B : Begins v ob G) (hG : G s.heap)
    (h : ∀ h', IsEnum h' (s.heap.objs.size + 1) s.heap.objs.size 0 .none → h'.get? s.heap.objs.size = some ob → (∀ b o, s.heap.get? b = some o → h'.get? b = some o) → Q (.ref (s.heap.objs.size + 1)) { s with heap := h' }) :
    wpAny (model prog w) A (call (.type "enumerate") [v]) Q E s := by
  have zz : (s.heap.push ob).objs.size = s.heap.objs.size + 1 := Heap.size_push ..
  refine callType_new F.called_enumerate (by decide) (F.typeCall_enumerate_1 _) (F.newCall_enumerate_1 _) (fun me => F.args_object_init_2 me _) F.entry_enumerate_new (meets_enum1 B) ⟨hG, ?_⟩
  show _ ∧ _
  rw [zz]
  have new : IsEnum ((s.heap.push ob).push { cls := .type "enumerate", data := .fields #[.none, .bool false, .ref s.heap.objs.size, rawInt 0, .none, .none] }) (s.heap.objs.size + 1) s.heap.objs.size 0 .none := by
    have q := Heap.get?_push_size (s.heap.push ob) (o := { cls := .type "enumerate", data := .fields #[.none, .bool false, .ref s.heap.objs.size, rawInt 0, .none, .none] }) rfl
    rw [zz] at q
    exact q
  exact ⟨⟨_, new, rfl⟩, h _ new (Heap.get?_push_of_some _ (Heap.get?_push_size _ B.free)) fun b o x => Heap.get?_push_of_some _ (Heap.get?_push_of_some _ x)⟩
end
/-- enumerate of a list, a tuple, a text -/
def iEnumU (K : Fg) (ta : TA) : TI := fun σ H R => ta σ H fun vs H1 => (∃ a xs, vs = [.ref a] ∧ SqL K H1 a xs ∧ R (Ite K a) H1) ∨ ((∃ a xs, vs = [.ref a] ∧ SqT K H1 a xs ∧ R (Iet K a) H1) ∨ (∃ z, vs = [.str z] ∧ R (Ies z) H1))
section
variable {X : Cx} {pins : List (Addr × Obj)} {σ : L2.St} {H : Hp} {s : Shared} {tg : Expr} {R : It → Hp → Prop} {E : Value → Shared → Prop}
theorem enum_start {J : It} {v : Value} {ob : Obj} {G : Heap → Prop} {tn : Nat → Heap → Prop} (I : Inv X pins σ H s) (B : Begins v ob G) (hG : G s.heap)
    (T : Turn X.prog X.w X.K tg J [s.heap.objs.size + 1, s.heap.objs.size] (s.heap.objs.size + 1) tn) (h0 : ∀ h' : Heap, IsEnum h' (s.heap.objs.size + 1) s.heap.objs.size 0 .none → h'.get? s.heap.objs.size = some ob → tn 0 h') (q : R J H) :
    wpAny (model X.prog X.w) X.A (call (.type "enumerate") [v]) (fun v s1 => wpAny (model X.prog X.w) X.A (pyIter v) (PIE X pins σ tg R) E s1) E s := by
  refine call_enum1 B hG fun h1 new inner keep => wpAny_pyIter_enum new ?_
  have J1 : Inv X pins σ H { s with heap := h1 } := I.kept (t' := s.toks) keep
  refine ⟨s.heap.objs.size + 1, [s.heap.objs.size + 1, s.heap.objs.size], tn, J, H, rfl, J1, T, h0 h1 new inner, fun b hb => ?_, q⟩
  have le : s.heap.objs.size ≤ b := by
    rcases (show b = s.heap.objs.size + 1 ∨ b = s.heap.objs.size by simpa using hb) with z | z
    · rw [z]; exact Nat.le_succ _
    · rw [z]; exact Nat.le_refl _
  exact I.fpOk le (I.hok.fresh le)
end
theorem pi_enumU {X : Cx} {e : Expr} {ta : TA} {p pos tpos : Pos} {elts : List Expr} {kk : Nat} (hg : Gl X "enumerate") (hm : X.mg "enumerate" = none) (ha : PA X [e] ta) (hs : starEach [e] X.env = [(false, eval e X.env)] := by rfl) :
    PI X (.Tuple elts kk tpos) (.Call (.Name "enumerate" p) [e] [] pos) (iEnumU X.K ta) := ⟨fun pins s σ H R I h => by
  refine PyProof.Rows.Call_ (ld_blt I hg hm PyProof.Rows.boot_enumerate (PyProof.Rows.callWith_type1 (thn (ha.run pos pins s σ H _ I h) fun us s1 ⟨vs, H1, I1, r1, q1⟩ => ?_) hs rfl))
  have ne : s1.heap.objs.size + 1 ≠ s1.heap.objs.size := Nat.succ_ne_self _
  rcases q1 with ⟨a, xs, ex, hq, q⟩ | ⟨a, xs, ex, hq, q⟩ | ⟨z, ex, q⟩
  · subst ex
    obtain ⟨u, rfl, ru⟩ := Vals.one r1
    cases ru
    obtain ⟨us, rv, pl, _⟩ := I1.list hq
    exact enum_start I1 (begins_list a us.toArray) pl.isList (turn_enum a _ _) (fun h' n1 n2 => ⟨⟨.none, n1⟩, ⟨_, n2, rfl, rfl⟩, ne⟩) q
  · subst ex
    obtain ⟨u, rfl, ru⟩ := Vals.one r1
    cases ru
    obtain ⟨us, rv, pt, _⟩ := I1.tuple hq
    have ht : s1.heap.IsTuple a us.toArray := pt
    exact enum_start I1 (begins_tuple a us.toArray) ht (turn_enumT a _ _) (fun h' n1 n2 => ⟨⟨.none, n1⟩, ⟨_, n2, rfl, rfl⟩, ne⟩) q
  · subst ex
    obtain ⟨u, rfl, ru⟩ := Vals.one r1
    obtain ⟨t, rfl⟩ := ru
    exact enum_start I1 (begins_text z t) trivial (turn_enumS _ _ z t) (fun h' n1 n2 => ⟨⟨.none, n1⟩, ⟨_, n2, rfl, rfl⟩, ne⟩) q⟩
end CV
namespace CV
open PySem
/-! ### dicts whose keys are whole numbers and tuples (of any depth) side by side -/
abbrev NK := NestedKey
/-- no text at the top -/
def NK.ok (k : NK) : Bool := decide (k.depth ≤ 8) && match k with
  | .text _ => false
  | _ => true
def NkIs (h : Heap) (k : NK) (u : Value) : Prop := NestedIs h k u ∧ k.ok = true
theorem NK.ok_d {k : NK} (h : k.ok = true) : k.depth ≤ 8 := of_decide_eq_true (Bool.and_eq_true_iff.mp h).1
abbrev Row := NK × Value × Value
def rowEnt (w : World) (x : Row) : DictEntry := ⟨x.1.hash w, x.2.1, x.2.2⟩
def DicRaw (w : World) (h : Heap) (d : Addr) (xs : List Row) : Prop := ∃ o es ep, h.get? d = some o ∧ o.ExactDict ∧ o.data = .dict es ep ∧ es.toList = xs.map (rowEnt w)
structure DicV (w : World) (h : Heap) (d : Addr) (xs : List Row) : Prop where
  raw : DicRaw w h d xs
  keys : ∀ x ∈ xs, NkIs h x.1 x.2.1
  nd : (xs.map (·.1)).Nodup
def rowAtK (xs : List Row) (k : NK) : Option Value := (xs.find? fun x => decide (x.1 = k)).map (·.2.2)
def rowPut (xs : List Row) (k : NK) (u v : Value) : List Row := if (rowAtK xs k).isSome then xs.map (fun x => if x.1 = k then (x.1, x.2.1, v) else x) else xs ++ [(k, u, v)]
section
variable {prog : Program} {w : World} {A : Around} {E : Value → Shared → Prop} {s : Shared}
theorem NkIs.not_str {h : Heap} {k : NK} {x : Str} {t : Tok} (q : NkIs h k (.str x t)) : False := by
  obtain ⟨a, b⟩ := q
  cases a with
  | text _ _ => simp [NK.ok] at b
theorem rows_get {es : Array DictEntry} {xs : List Row} (he : es.toList = xs.map (rowEnt w)) (j : Nat) : es[j]? = (xs[j]?).map (rowEnt w) := by
  have z : es.toList[j]? = (xs.map (rowEnt w))[j]? := by rw [he]
  rw [List.getElem?_map, Array.getElem?_toList] at z
  exact z
theorem rows_size {es : Array DictEntry} {xs : List Row} (he : es.toList = xs.map (rowEnt w)) : es.size = xs.length := by
  have z := congrArg List.length he
  simpa using z
theorem key_same {xs : List Row} (nd : (xs.map (·.1)).Nodup) {i j : Nat} {x y : Row} (hi : xs[i]? = some x) (hj : xs[j]? = some y) (e : x.1 = y.1) : i = j := by
  have a : (xs.map (·.1))[i]? = some x.1 := by rw [List.getElem?_map, hi]; rfl
  have b : (xs.map (·.1))[j]? = some x.1 := by rw [List.getElem?_map, hj, e]; rfl
  exact (List.getElem?_inj (List.getElem?_eq_some_iff.mp a).1 nd).mp (a.trans b.symm)
theorem rowAtK_some {xs : List Row} (nd : (xs.map (·.1)).Nodup) {j : Nat} {x : Row} (hj : xs[j]? = some x) : rowAtK xs x.1 = some x.2.2 := by
  unfold rowAtK
  cases hf : xs.find? fun y => decide (y.1 = x.1) with
  | none =>
    have := List.find?_eq_none.mp hf x (List.mem_of_getElem? hj)
    simp at this
  | some y =>
    have e : y.1 = x.1 := by
      have := List.find?_some hf
      simpa using this
    obtain ⟨i, hi⟩ := List.mem_iff_getElem?.mp (List.mem_of_find?_eq_some hf)
    have ij := key_same nd hi hj e
    subst ij
    rw [hi] at hj
    cases hj
    rfl
theorem rowAtK_none {xs : List Row} {k : NK} (h : ∀ (j : Nat) (x : Row), xs[j]? = some x → x.1 ≠ k) : rowAtK xs k = none := by
  unfold rowAtK
  have : (xs.find? fun x => decide (x.1 = k)) = none := List.find?_eq_none.mpr fun x hx e => by
    have e : x.1 = k := by simpa using e
    obtain ⟨i, hi⟩ := List.mem_iff_getElem?.mp hx
    exact h i x hi e
  rw [this]; rfl
/-- what a look for a key has found so far, among the places that were looked at -/
def Seen (xs : List Row) (k : NK) (old : List Nat) (hit : Option Nat) : Prop := (hit = none ∧ ∀ j ∈ old, ∀ x, xs[j]? = some x → x.1 ≠ k) ∨ ∃ j x, hit = some j ∧ j ∈ old ∧ xs[j]? = some x ∧ x.1 = k
theorem eq_keys {a b : NK} {u v : Value} {Q : Bool → Shared → Prop} (hr : A.units + 8 < cLine) (ha : NkIs s.heap a u) (hb : NkIs s.heap b v) (h : Q (decide (a = b)) s) : wpAny (model prog w) A (eqBool u v) Q E s := by
  have d1 := NK.ok_d ha.2
  have m : min a.depth b.depth ≤ a.depth := Nat.min_le_left _ _
  exact eqAt_key a b A s u v ha.1 hb.1 (by omega) prog w E Q (by rw [← NestedKey.decide_eq]; exact h)
theorem quiet_table {u : Value} {k : NK} {old : List Value} {Q : Bool → Shared → Prop} (hk : NkIs s.heap k u) (ho : ∀ v ∈ old, ∃ y, NkIs s.heap y v) (h : Q false s) : wpAny (model prog w) A (tableMayTell u old) Q E s := by
  unfold tableMayTell
  split
  · exact wpAny_pure h
  · refine wpAny_bind (quiet_key k u 8 s hk.1 (NK.ok_d hk.2) A E _ ?_)
    rw [if_neg (by simp)]
    refine wpAny_bind ?_
    refine wpAny_forIn_list _ (fun rest r s' => r = (none, ()) ∧ s' = s ∧ ∀ v ∈ rest, ∃ y, NkIs s.heap y v) _ ?_ ?_ _ _ ⟨rfl, rfl, ho⟩
    · rintro v rest r z ⟨rfl, rfl, hr⟩
      obtain ⟨y, hy⟩ := hr v (List.mem_cons_self ..)
      refine wpAny_bind (quiet_key y v 8 z hy.1 (NK.ok_d hy.2) A E _ ?_)
      rw [if_neg (by simp)]
      exact wpAny_pure ⟨rfl, rfl, fun q hq => hr q (List.mem_cons_of_mem _ hq)⟩
    · rintro r z ⟨rfl, rfl, _⟩
      exact wpAny_pure h
theorem wpIf {α : Type} {M : Model} {c : Prop} [Decidable c] {a b : Sem α} {Q : α → Shared → Prop} (h1 : c → wpAny M A a Q E s) (h2 : ¬ c → wpAny M A b Q E s) : wpAny M A (if c then a else b) Q E s := by
  by_cases h : c
  · rw [if_pos h]; exact h1 h
  · rw [if_neg h]; exact h2 h
/-- the places of one hash -/
theorem places_mem {es : Array DictEntry} {xs : List Row} (he : es.toList = xs.map (rowEnt w)) {h : Int} {j : Nat} (hj : j ∈ placesWithHash es.size (fun i => es[i]?.map (·.hash)) h) : ∃ x, xs[j]? = some x ∧ es[j]? = some (rowEnt w x) ∧ x.1.hash w = h := by
  obtain ⟨h1, h2⟩ := List.mem_filter.mp hj
  have hl : j < xs.length := by rw [← rows_size he]; exact List.mem_range.mp h1
  have e := rows_get he j
  rw [List.getElem?_eq_getElem hl] at e
  refine ⟨xs[j], List.getElem?_eq_getElem hl, e, ?_⟩
  dsimp only at h2
  rw [e] at h2
  simpa [rowEnt] using h2
theorem places_all {es : Array DictEntry} {xs : List Row} (he : es.toList = xs.map (rowEnt w)) {h : Int} {j : Nat} {x : Row} (hj : xs[j]? = some x) (hx : x.1.hash w = h) : j ∈ placesWithHash es.size (fun i => es[i]?.map (·.hash)) h := by
  refine List.mem_filter.mpr ⟨List.mem_range.mpr ?_, ?_⟩
  · rw [rows_size he]; exact (List.getElem?_eq_some_iff.mp hj).1
  · have e := rows_get he j
    rw [hj] at e
    dsimp only
    rw [e]
    simp [rowEnt, hx]
theorem places_nodup {n : Nat} {f : Nat → Option Int} {h : Int} : (placesWithHash n f h).Nodup := List.Pairwise.filter _ List.nodup_range
theorem find_rows {d : Addr} {u : Value} {k : NK} {o : Obj} {es : Array DictEntry} {ep : Nat} {xs : List Row} {Q : Option Nat → Shared → Prop} (hr : A.units + 8 < cLine) (hk : NkIs s.heap k u)
    (ho : s.heap.get? d = some o) (hd : o.data = .dict es ep) (he : es.toList = xs.map (rowEnt w)) (his : ∀ x ∈ xs, NkIs s.heap x.1 x.2.1) (nd : (xs.map (·.1)).Nodup)
    (hno : (∀ (j : Nat) (x : Row), xs[j]? = some x → x.1 ≠ k) → Q none s) (hyes : ∀ (j : Nat) (x : Row), xs[j]? = some x → x.1 = k → Q (some j) s) : wpAny (model prog w) A (dictFind d u (k.hash w)) Q E s := by
  have kin : ∀ (j : Nat) (x : Row), xs[j]? = some x → NkIs s.heap x.1 x.2.1 := fun j x hx => his x (List.mem_of_getElem? hx)
  have old : ∀ a, u = .ref a → ¬ (es.any fun e => e.key == Value.ref a && e.hash != k.hash w) = true := fun a eu hany => by
    rw [← Array.any_toList, List.any_eq_true] at hany
    obtain ⟨e, he1, he2⟩ := hany
    rw [he] at he1
    obtain ⟨x, hx, rfl⟩ := List.mem_map.mp he1
    simp only [rowEnt, Bool.and_eq_true, beq_iff_eq, bne_iff_ne, ne_eq] at he2
    have q := his x hx
    rw [he2.1] at q
    rw [eu] at hk
    exact he2.2 (by rw [NestedIs.inj _ _ _ q.1 hk.1])
  have ns : ∀ y t, u ≠ .str y t := fun y t eu => by rw [eu] at hk; exact hk.not_str
  have pm := fun (j : Nat) hj => places_mem (j := j) he (h := k.hash w) hj
  have pa := fun (j : Nat) (x : Row) (hj : xs[j]? = some x) (e : x.1 = k) => places_all he (h := k.hash w) hj (by rw [e])
  have pn : (placesWithHash es.size (fun i => es[i]?.map (·.hash)) (k.hash w)).Nodup := places_nodup
  unfold dictFind
  refine wpAny_holding (wpAny_bind (wpAny_dictEntries ho hd ?_))
  generalize placesWithHash es.size (fun i => es[i]?.map (·.hash)) (k.hash w) = P at *
  -- the end of a walk
  have final : ∀ hit, Seen xs k P hit → Q hit s := fun hit hs => by
    rcases hs with ⟨rfl, hn⟩ | ⟨j, x, rfl, _, hx, e⟩
    · exact hno fun j x hx e => hn j (pa j x hx e) x hx e
    · exact hyes j x hx e
  have more : ∀ {o1 : List Nat} {j : Nat} {x : Row} {hit : Option Nat}, xs[j]? = some x → x.1 ≠ k → Seen xs k o1 hit → Seen xs k (o1 ++ [j]) hit := fun {o1 j x hit} hx e hs => by
    rcases hs with ⟨rfl, hn⟩ | ⟨i, y, rfl, hi, hy, ey⟩
    · refine .inl ⟨rfl, fun i hi y hy => ?_⟩
      rcases List.mem_append.mp hi with q | q
      · exact hn i q y hy
      · rw [List.mem_singleton.mp q, hx] at hy
        cases hy
        exact e
    · exact .inr ⟨i, y, rfl, List.mem_append_left _ hi, hy, ey⟩
  have start : Seen xs k [] none := .inl ⟨rfl, fun j hj => by simp at hj⟩
  have plain : wpAny (model prog w) A (dictWalkPlain d u (k.hash w) es P) Q E s := by
    unfold dictWalkPlain
    refine wpAny_bind ?_
    refine wpAny_forIn_list _ (fun rest r z => ∃ o1, P = o1 ++ rest ∧ r = (none, ()) ∧ z = s ∧ Seen xs k o1 none) _ ?_ ?_ _ _ ⟨[], rfl, rfl, rfl, start⟩
    · rintro j rest r z ⟨o1, eP, rfl, rfl, hs⟩
      obtain ⟨x, hx, ex, eh⟩ := pm j (by rw [eP]; simp)
      rw [ex]
      dsimp only
      rw [if_pos (by simp [rowEnt, eh])]
      refine wpAny_bind (wpAny_dictEpoch ho hd (wpAny_bind (eq_keys hr (kin j x hx) hk (wpAny_bind (wpAny_dictEpoch ho hd ?_)))))
      rw [if_neg (by simp)]
      by_cases e : x.1 = k
      · rw [decide_eq_true e, if_pos rfl]
        exact wpAny_bind (wpAny_rule (wpAny_pure (wpAny_pure (hyes j x hx e))))
      · rw [decide_eq_false e, if_neg Bool.false_ne_true]
        exact wpAny_bind (wpAny_rule (wpAny_pure ⟨o1 ++ [j], by rw [eP]; simp, rfl, rfl, more hx e hs⟩))
    · rintro r z ⟨o1, eP, rfl, rfl, hs⟩
      rw [List.append_nil] at eP
      subst eP
      exact wpAny_pure (final none hs)
  have quiet : ∀ {R : Bool → Shared → Prop}, R false s → wpAny (model prog w) A (tableMayTell u (P.filterMap fun i => es[i]?.map (·.key))) R E s := fun hR => by
    refine quiet_table hk (fun v hv => ?_) hR
    obtain ⟨j, hj, e⟩ := List.mem_filterMap.mp hv
    obtain ⟨x, hx, ex, _⟩ := pm j hj
    rw [ex] at e
    cases e
    exact ⟨x.1, kin j x hx⟩
  generalize hst : (P.filterMap fun i => es[i]?.map (·.key)) = st at *
  cases u <;> first
  | exact absurd rfl (ns _ _)
  | (cases hk.1; done)
  | (dsimp only
     rw [hst]
     refine wpIf (fun _ => plain) fun _ => ?_
     try refine wpIf (fun c => absurd c (old _ rfl)) fun _ => ?_
     refine wpIf (fun _ => wpAny_bind (wpAny_pure ?_)) fun _ => wpAny_bind (quiet ?_)
     all_goals
       rw [if_neg (by simp)]
       refine wpAny_bind ?_
       refine wpAny_forIn_list _ (fun rest r z => ∃ o1, P = o1 ++ rest ∧ r.1 = none ∧ z = s ∧ Seen xs k o1 r.2) _ ?_ ?_ _ _ ⟨[], rfl, rfl, rfl, start⟩
       · rintro j rest ⟨r1, hit⟩ z ⟨o1, eP, hr1, rfl, hs⟩
         dsimp only at hr1 hs
         subst hr1
         obtain ⟨x, hx, ex, eh⟩ := pm j (by rw [eP]; simp)
         rw [ex]
         dsimp only
         rw [if_pos (by simp [rowEnt, eh])]
         refine wpAny_bind (wpAny_dictEpoch ho hd (wpAny_bind (eq_keys hr (kin j x hx) hk (wpAny_bind (wpAny_dictEpoch ho hd ?_)))))
         rw [if_neg (by simp)]
         by_cases e : x.1 = k
         · rw [decide_eq_true e, if_pos rfl]
           rcases hs with ⟨rfl, hn⟩ | ⟨i, y, rfl, hi, hy, ey⟩
           · rw [if_neg (by simp)]
             refine wpAny_bind (wpAny_rule ?_)
             split
             · exact wpAny_pure (wpAny_pure (hyes j x hx e))
             · exact wpAny_pure ⟨o1 ++ [j], by rw [eP]; simp, rfl, rfl, .inr ⟨j, x, rfl, by simp, hx, e⟩⟩
           · exfalso
             have ij := key_same nd hy hx (by rw [ey, e])
             subst ij
             rw [eP] at pn
             exact (List.nodup_append.mp pn).2.2 i hi i (by simp) rfl
         · rw [decide_eq_false e, if_neg Bool.false_ne_true]
           refine wpAny_bind (wpAny_rule ?_)
           rw [if_neg (by simp)]
           exact wpAny_pure ⟨o1 ++ [j], by rw [eP]; simp, rfl, rfl, more hx e hs⟩
       · rintro ⟨r1, hit⟩ z ⟨o1, eP, hr1, rfl, hs⟩
         dsimp only at hr1 hs
         subst hr1
         rw [List.append_nil] at eP
         subst eP
         exact wpAny_pure (final hit hs))
theorem keys_stay {h h' : Heap} {d : Addr} {o : Obj} {es : Array DictEntry} {ep : Nat} {k : NK} {u : Value} (ho : h.get? d = some o) (hd : o.data = .dict es ep) (hs : Heap.SameBut d h h') (q : NkIs h k u) : NkIs h' k u :=
  ⟨NestedIs.at (fun b ob vs n hb hc => (hs.2 b fun z => by
    subst z
    rw [ho] at hb
    cases hb
    rw [hd] at hc
    cases hc).trans hb) k u q.1, q.2⟩
theorem get_rows {d : Addr} {u : Value} {k : NK} {xs : List Row} {Q : Option Value → Shared → Prop} (hr : A.units + 8 < cLine) (hk : NkIs s.heap k u) (hm : DicV w s.heap d xs) (h : ∀ n, Q (rowAtK xs k) { s with toks := n }) : wpAny (model prog w) A (dictGet d u) Q E s := by
  obtain ⟨⟨o, es, ep, ho, hc, hd, he⟩, his, nd⟩ := hm
  have dk := NK.ok_d hk.2
  unfold dictGet
  refine wpAny_holding (wpAny_bind (pyHash_key k u A s _ hk.1 (by omega) (wpAny_bind (find_rows (s := { s with toks := s.toks + k.draws }) hr hk ho hd he his nd (fun hn => ?_) fun j x hx e => ?_))))
  · have z := h (s.toks + k.draws)
    rw [rowAtK_none hn] at z
    exact wpAny_pure z
  · refine wpAny_bind (wpAny_dictEntries (s := { s with toks := s.toks + k.draws }) ho hd ?_)
    subst e
    have z := h (s.toks + x.1.draws)
    rw [rowAtK_some nd hx] at z
    rw [rows_get he, hx]
    exact wpAny_pure z
theorem set_rows {d : Addr} {u v : Value} {k : NK} {xs : List Row} {Q : Unit → Shared → Prop} (hr : A.units + 8 < cLine) (hk : NkIs s.heap k u) (hm : DicV w s.heap d xs) (hl : xs.length ≤ sizeLine)
    (h : ∀ h' n, DicV w h' d (rowPut xs k u v) → Heap.SameBut d s.heap h' → Q () { s with heap := h', toks := n }) : wpAny (model prog w) A (dictSet d u v) Q E s := by
  obtain ⟨⟨o, es, ep, ho, hc, hd, he⟩, his, nd⟩ := hm
  have dk := NK.ok_d hk.2
  have hz := rows_size he
  unfold dictSet
  refine wpAny_holding (wpAny_bind (pyHash_key k u A s _ hk.1 (by omega) ?_))
  unfold dictSetHashed
  refine wpAny_holding (wpAny_bind (find_rows (s := { s with toks := s.toks + k.draws }) hr hk ho hd he his nd (fun hn => ?_) fun j x hx e => ?_))
  · have e0 : rowPut xs k u v = xs ++ [(k, u, v)] := by unfold rowPut; rw [rowAtK_none hn]; rfl
    refine wpAny_bind (wpAny_rule (wpAny_updateDictKeys (s := { s with toks := s.toks + k.draws }) ho hd ?_ (hz := by omega)))
    have sb : Heap.SameBut d s.heap (s.heap.update d (Obj.mapDictKeys fun q => q.push ⟨k.hash w, u, v⟩)) := Heap.SameBut.update ..
    refine h _ _ ?_ sb
    rw [e0]
    refine ⟨⟨_, _, ep + 1, Heap.get?_update_self _ ho (Obj.isFreed_of_dict (Obj.data_mapDictKeys hd _)), hc.mapDictKeys _, Obj.data_mapDictKeys hd _, by simp [he, rowEnt]⟩, fun x hx => ?_, ?_⟩
    · rcases List.mem_append.mp hx with q | q
      · exact keys_stay ho hd sb (his x q)
      · rw [List.mem_singleton.mp q]
        exact keys_stay ho hd sb hk
    · rw [List.map_append, List.nodup_append]
      refine ⟨nd, by simp, fun a ha b hb z => ?_⟩
      have hb' : b = k := by simpa using hb
      obtain ⟨y, hy, ey⟩ := List.mem_map.mp ha
      obtain ⟨i, hi⟩ := List.mem_iff_getElem?.mp hy
      exact hn i y hi (by rw [ey, z, hb'])
  · have e0 : rowPut xs k u v = xs.map (fun x => if x.1 = k then (x.1, x.2.1, v) else x) := by
      unfold rowPut
      rw [← e, rowAtK_some nd hx]; rfl
    have sb : Heap.SameBut d s.heap (s.heap.update d (Obj.mapDict fun q => q.modify j fun e => { e with val := v })) := Heap.SameBut.update ..
    refine wpAny_bind (wpAny_rule (wpAny_bind (wpAny_updateDict (s := { s with toks := s.toks + k.draws }) ho hd (wpAny_point (h _ _ ?_ sb)))))
    rw [e0]
    refine ⟨⟨_, _, ep, Heap.get?_update_self _ ho (Obj.isFreed_of_dict (Obj.data_mapDict hd _)), hc.mapDict _, Obj.data_mapDict hd _, ?_⟩, fun y hy => ?_, ?_⟩
    · rw [Array.toList_modify, he]
      refine List.ext_getElem? fun i => ?_
      rw [List.getElem?_modify, List.getElem?_map, List.getElem?_map, List.getElem?_map]
      cases hi : xs[i]? with
      | none => rfl
      | some y =>
        by_cases ij : j = i
        · subst ij
          rw [hx] at hi
          cases hi
          simp [e, rowEnt]
        · have ne : ¬ y.1 = k := fun z => ij (key_same nd hx hi (by rw [e, z]))
          simp [ij, ne]
    · obtain ⟨x', hx', rfl⟩ := List.mem_map.mp hy
      have q := keys_stay ho hd sb (his x' hx')
      split <;> exact q
    · rw [List.map_map]
      have : (xs.map ((·.1) ∘ fun x : Row => if x.1 = k then (x.1, x.2.1, v) else x)) = xs.map (·.1) := by
        refine List.map_congr_left fun y _ => ?_
        show (if y.1 = k then (y.1, y.2.1, v) else y).1 = y.1
        split <;> rfl
      rw [this]
      exact nd
end
/-! ### the same by values -/
open L2
abbrev MRow := NK × V × V
def RowRel (q : MRow) (r : Row) : Prop := q.1 = r.1 ∧ RelV q.2.1 r.2.1 ∧ RelV q.2.2 r.2.2
/-- a dict with such keys, told by its entries -/
def dxO (w : World) (p : Addr) (kvs : List MRow) : HO := .ext fun h => (p == sysModules) = false ∧ kvs.length ≤ sizeLine ∧ ∃ rows, Paired RowRel kvs rows ∧ DicRaw w h p rows
mutual
def NkV (H : Hp) : NK → V → Prop
  | .none, v => v = .non
  | .num i, v => v = .int i
  | .text x, v => v = .str x
  | .tup ks, v => ∃ a vs, v = .ref a ∧ H a = some (.tup vs) ∧ NkVs H ks vs
def NkVs (H : Hp) : List NK → List V → Prop
  | [], vs => vs = []
  | k :: ks, vs => ∃ v r, vs = v :: r ∧ NkV H k v ∧ NkVs H ks r
end
structure KeysV (H : Hp) (kvs : List MRow) : Prop where
  all : ∀ q ∈ kvs, NkV H q.1 q.2.1 ∧ q.1.ok = true
  nd : (kvs.map (·.1)).Nodup
def valM (kvs : List MRow) (k : NK) : Option V := (kvs.find? fun q => decide (q.1 = k)).map (·.2.2)
def putM (kvs : List MRow) (k : NK) (y v : V) : List MRow := if (valM kvs k).isSome then kvs.map (fun q => if q.1 = k then (q.1, q.2.1, v) else q) else kvs ++ [(k, y, v)]
mutual
theorem NkV.mono {H H' : Hp} (e : ∀ a ys, H a = some (.tup ys) → H' a = some (.tup ys)) : ∀ {k : NK} {v : V}, NkV H k v → NkV H' k v
  | .none, _, h => h
  | .num _, _, h => h
  | .text _, _, h => h
  | .tup _, _, ⟨a, vs, h1, h2, h3⟩ => ⟨a, vs, h1, e a vs h2, NkVs.mono e h3⟩
theorem NkVs.mono {H H' : Hp} (e : ∀ a ys, H a = some (.tup ys) → H' a = some (.tup ys)) : ∀ {ks : List NK} {vs : List V}, NkVs H ks vs → NkVs H' ks vs
  | [], _, h => h
  | _ :: _, _, ⟨v, r, h1, h2, h3⟩ => ⟨v, r, h1, NkV.mono e h2, NkVs.mono e h3⟩
end
theorem KeysV.mono {H H' : Hp} (e : ∀ a ys, H a = some (.tup ys) → H' a = some (.tup ys)) {kvs : List MRow} (h : KeysV H kvs) : KeysV H' kvs := ⟨fun q hq => ⟨(h.all q hq).1.mono e, (h.all q hq).2⟩, h.nd⟩
section
variable {X : Cx} {pins : List (Addr × Obj)} {σ : L2.St} {H : Hp} {s : Shared} {a : Addr} {y v : V} {u r : Value} {o : Option V} {A : Around} {E : Value → Shared → Prop}
mutual
theorem NkV.is (ok : HOk X.prog X.w H s.heap) : ∀ {k : NK} {v : V} {u : Value}, NkV H k v → RelV v u → NestedIs s.heap k u
  | .none, _, _, h, q => by
    rw [show _ = V.non from h] at q
    rw [show _ = Value.none from q]; exact .none
  | .num i, _, _, h, q => by
    rw [show _ = V.int i from h] at q
    obtain ⟨t, e⟩ := (show ∃ t, _ = Value.int i t from q)
    rw [e]; exact .int i t
  | .text x, _, _, h, q => by
    rw [show _ = V.str x from h] at q
    obtain ⟨t, e⟩ := (show ∃ t, _ = Value.str x t from q)
    rw [e]; exact .text x t
  | .tup ks, _, _, ⟨a, vs, h1, h2, h3⟩, q => by
    rw [h1] at q
    rw [show _ = Value.ref a from q]
    obtain ⟨_, its, rv, ob, e1, e2, n, e3⟩ := ok a _ h2
    exact .tup e1 e2 e3 (by rw [List.toList_toArray]; exact NkVs.is ok h3 rv)
theorem NkVs.is (ok : HOk X.prog X.w H s.heap) : ∀ {ks : List NK} {vs : List V} {us : List Value}, NkVs H ks vs → Vals vs us → NestedAll s.heap ks us
  | [], _, _, h, q => by
    rw [show _ = [] from h] at q
    cases q; exact .nil
  | k :: ks, _, _, ⟨v, r, h1, h2, h3⟩, q => by
    rw [h1] at q
    cases q with
    | cons q1 q2 => exact .cons (NkV.is ok h2 q1) (NkVs.is ok h3 q2)
end
theorem rows_val {kvs : List MRow} {rows : List Row} (h : Paired RowRel kvs rows) (k : NK) : RelO (valM kvs k) (rowAtK rows k) := by
  unfold valM rowAtK
  induction h with
  | nil => exact True.intro
  | @cons p q ps qs h t ih =>
    obtain ⟨h1, h2, h3⟩ := h
    rw [List.find?_cons, List.find?_cons]
    by_cases e : p.1 = k
    · rw [decide_eq_true e, decide_eq_true (h1 ▸ e)]; exact h3
    · rw [decide_eq_false e, decide_eq_false (h1 ▸ e)]; exact ih
theorem rows_put {kvs : List MRow} {rows : List Row} (h : Paired RowRel kvs rows) {k : NK} (ry : RelV y u) (rv : RelV v r) : Paired RowRel (putM kvs k y v) (rowPut rows k u r) := by
  have e := (rows_val h k).isSome_eq
  unfold putM rowPut
  rw [e]
  split
  · rename_i z
    clear z e
    induction h with
    | nil => exact .nil
    | @cons p q ps qs h t ih =>
      obtain ⟨h1, h2, h3⟩ := h
      rw [List.map_cons, List.map_cons]
      refine .cons ?_ ih
      by_cases e : p.1 = k
      · rw [if_pos e, if_pos (h1 ▸ e)]; exact ⟨h1, h2, rv⟩
      · rw [if_neg e, if_neg (h1 ▸ e)]; exact ⟨h1, h2, h3⟩
  · rename_i z
    clear z e
    induction h with
    | nil => exact .cons ⟨rfl, ry, rv⟩ .nil
    | cons h t ih => exact .cons h ih
theorem rows_keys {kvs : List MRow} {rows : List Row} (h : Paired RowRel kvs rows) : rows.map (·.1) = kvs.map (·.1) := by
  induction h with
  | nil => rfl
  | cons h t ih => rw [List.map_cons, List.map_cons, ih, h.1]
theorem rows_is (ok : HOk X.prog X.w H s.heap) {kvs : List MRow} {rows : List Row} (h : Paired RowRel kvs rows) (hk : ∀ q ∈ kvs, NkV H q.1 q.2.1 ∧ q.1.ok = true) : ∀ x ∈ rows, NkIs s.heap x.1 x.2.1 := by
  induction h with
  | nil => intro x hx; simp at hx
  | @cons p q ps qs h t ih =>
    intro x hx
    rcases List.mem_cons.mp hx with e | e
    · subst e
      obtain ⟨k1, k2⟩ := hk p (by simp)
      refine ⟨?_, by rw [← h.1]; exact k2⟩
      rw [← h.1]
      exact k1.is ok h.2.1
    · exact ih (fun z hz => hk z (by simp [hz])) x e
/-- what the dict at a holds at y; the heap behind a[y] = v -/
def MGet (w : World) (H : Hp) (a : Addr) (y : V) (o : Option V) : Prop := ∃ kvs k, H a = some (dxO w a kvs) ∧ KeysV H kvs ∧ NkV H k y ∧ k.ok = true ∧ o = valM kvs k
def MPut (w : World) (H : Hp) (a : Addr) (y v : V) (H' : Hp) : Prop := ∃ kvs k, H a = some (dxO w a kvs) ∧ KeysV H kvs ∧ NkV H k y ∧ k.ok = true ∧ kvs.length < sizeLine ∧ H' = upd H a (dxO w a (putM kvs k y v))
theorem m_at (ok : HOk X.prog X.w H s.heap) {kvs : List MRow} (e : H a = some (dxO X.w a kvs)) (hk : KeysV H kvs) : (a == sysModules) = false ∧ kvs.length ≤ sizeLine ∧ ∃ rows, Paired RowRel kvs rows ∧ DicV X.w s.heap a rows := by
  obtain ⟨⟨h1, h2, rows, h3, h4⟩, _, _⟩ := ok a _ e
  exact ⟨h1, h2, rows, h3, h4, rows_is ok h3 hk.all, by rw [rows_keys h3]; exact hk.nd⟩
theorem DicV.typeIs {w : World} {xs : List Row} (m : DicV w s.heap a xs) : s.TypeIs (.ref a) "dict" := by
  obtain ⟨⟨o, es, ep, ho, hc, _, _⟩, _, _⟩ := m
  exact ⟨o, ho, hc.1⟩
theorem m_contains {Q : Bool → Shared → Prop} (hu : A.units + 9 < cLine) (I : Inv X pins σ H s) (g : MGet X.w H a y o) (ry : RelV y u) (h : ∀ s', Inv X pins σ H s' → Q o.isSome s') : wpAny (model X.prog X.w) A (contains (.ref a) u) Q E s := by
  obtain ⟨kvs, k, e, hk, ky, ko, rfl⟩ := g
  obtain ⟨nm, _, rows, rel, m⟩ := m_at I.hok e hk
  have ku : NkIs s.heap k u := ⟨ky.is I.hok ry, ko⟩
  rw [(rows_val rel k).isSome_eq] at h
  unfold contains
  refine wpAny_holding (wpAny_bind (wpAny_specialOf m.typeIs slot_dict_contains.lookup ?_))
  show wpAny _ _ (if (some (Value.builtin "dict.__contains__") == some Value.none) = true then _ else _) _ E s
  rw [if_neg (by rw [beq_builtin_none]; simp)]
  refine wpAny_bind (wpAny_callSpecialUnlessNone?_slot (name := Str.ofString "__contains__") m.typeIs slot_dict_contains (wpAny_call_entry slot_dict_contains m.typeIs entry_dict_contains ?_ (args_dict_contains _ _)))
  show wpAny _ _ (dictGet a u >>= _) _ _ s
  refine wpAny_bind (get_rows (by rw [Around.in1_units]; omega) ku m fun n => ?_)
  have hq := h { s with toks := n } (I.tok _)
  cases hf : rowAtK rows k with
  | some p =>
    rw [hf] at hq
    show wpAny _ _ (ret (.bool true)) _ _ _
    exact wpAny_pure ⟨_, rfl, wpAny_truthy_bool hq⟩
  | none =>
    rw [hf] at hq
    show wpAny _ _ (Builtin.Dict.pendingKey? a u >>= _) _ _ _
    exact wpAny_bind (wpAny_pendingKey_other nm (wpAny_pure ⟨_, rfl, wpAny_truthy_bool hq⟩))
theorem m_in {Q : Value → Shared → Prop} (hu : A.units + 9 < cLine) (I : Inv X pins σ H s) (g : MGet X.w H a y o) (ry : RelV y u) (h : ∀ s', Inv X pins σ H s' → Q (.bool o.isSome) s') : wpAny (model X.prog X.w) A (compareOp .In u (.ref a)) Q E s := by
  show wpAny _ _ (contains (.ref a) u >>= fun b => pure (Value.bool b)) Q E s
  exact wpAny_bind (m_contains hu I g ry fun s' I' => wpAny_pure (h s' I'))
theorem m_notIn {Q : Value → Shared → Prop} (hu : A.units + 9 < cLine) (I : Inv X pins σ H s) (g : MGet X.w H a y o) (ry : RelV y u) (h : ∀ s', Inv X pins σ H s' → Q (.bool (!o.isSome)) s') : wpAny (model X.prog X.w) A (compareOp .NotIn u (.ref a)) Q E s := by
  show wpAny _ _ (contains (.ref a) u >>= fun b => pure (Value.bool (!b))) Q E s
  exact wpAny_bind (m_contains hu I g ry fun s' I' => wpAny_pure (h s' I'))
theorem m_getItem {Q : Value → Shared → Prop} (hu : A.units + 9 < cLine) (I : Inv X pins σ H s) (g : MGet X.w H a y (some v)) (ry : RelV y u) (h : ∀ w' s', Inv X pins σ H s' → RelV v w' → Q w' s') : wpAny (model X.prog X.w) A (getItem (.ref a) u) Q E s := by
  obtain ⟨kvs, k, e, hk, ky, ko, ev⟩ := g
  obtain ⟨nm, _, rows, rel, m⟩ := m_at I.hok e hk
  have ku : NkIs s.heap k u := ⟨ky.is I.hok ry, ko⟩
  obtain ⟨w', hw, rw'⟩ := RelO.some_of (v := v) (o := rowAtK rows k) (by rw [ev]; exact rows_val rel k)
  unfold getItem
  refine wpAny_holding (wpAny_bind (wpAny_sequenceKey m.typeIs (by decide) ?_))
  refine wpAny_bind (wpAny_callSpecial?_slot (name := Str.ofString "__getitem__") m.typeIs slot_dict_getitem (wpAny_call_entry slot_dict_getitem m.typeIs entry_dict_getitem ?_ (args_dict_getitem _ _)))
  show wpAny _ _ (dictGet a u >>= _) _ _ s
  refine wpAny_bind (get_rows (by rw [Around.in1_units]; omega) ku m fun n => ?_)
  rw [hw]
  exact wpAny_pure ⟨w', rfl, wpAny_pure (h w' { s with toks := n } (I.tok _) rw')⟩
theorem m_setItem {H' : Hp} {Q : Unit → Shared → Prop} (hu : A.units + 9 < cLine) (I : Inv X pins σ H s) (g : MPut X.w H a y v H') (ry : RelV y u) (rv : RelV v r) (h : ∀ s', Inv X pins σ H' s' → Q () s') : wpAny (model X.prog X.w) A (setItem (.ref a) u r) Q E s := by
  obtain ⟨kvs, k, e, hk, ky, ko, hl, rfl⟩ := g
  obtain ⟨nm, _, rows, rel, m⟩ := m_at I.hok e hk
  have ku : NkIs s.heap k u := ⟨ky.is I.hok ry, ko⟩
  have hz : rows.length ≤ sizeLine := by
    have := Paired.length rel
    omega
  unfold setItem
  refine wpAny_holding (wpAny_bind (wpAny_sequenceKey m.typeIs (by decide) ?_))
  refine wpAny_bind (wpAny_callSpecial?_slot (name := Str.ofString "__setitem__") m.typeIs slot_dict_setitem (wpAny_call_entry slot_dict_setitem m.typeIs entry_dict_setitem ?_ (args_dict_setitem _ _ _)))
  show wpAny _ _ (Builtin.Dict.notOrdered "__setitem__" ⟨[.ref a, u, r], []⟩ >>= _) _ _ s
  refine wpAny_bind (wpAny_notOrdered_dict m.typeIs ?_)
  show wpAny _ _ (dictSet a u r >>= _) _ _ s
  refine wpAny_bind (set_rows (by rw [Around.in1_units]; omega) ku m hz fun h' n m' hs => wpAny_pure ⟨.none, rfl, wpAny_pure (h _ ?_)⟩)
  obtain ⟨o, es, ep, ho, hr⟩ := m'.raw
  refine d_write I (by rw [e]; exact True.intro) hs ⟨o, ho⟩ ⟨⟨nm, ?_, _, rows_put rel ry rv, o, es, ep, ho, hr⟩, ⟨o, ho⟩, ?_⟩
  · unfold putM
    split
    · rw [List.length_map]; omega
    · rw [List.length_append]; simp; omega
  · rintro h1 h2 ⟨q1, q2, rows', q3, o', es', ep', q4, q5⟩ q6
    exact ⟨q1, q2, rows', q3, o', es', ep', q6 _ q4, q5⟩
theorem m_get2 {d : V} {t : Value} {Q : Value → Shared → Prop} (hu : A.units + 9 < cLine) (I : Inv X pins σ H s) (g : MGet X.w H a y o) (ry : RelV y u) (rd : RelV d t) (h : ∀ w' s', Inv X pins σ H s' → RelV (o.getD d) w' → Q w' s') : wpAny (model X.prog X.w) A (call (.builtin "dict.get") [.ref a, u, t]) Q E s := by
  obtain ⟨kvs, k, e, hk, ky, ko, rfl⟩ := g
  obtain ⟨nm, _, rows, rel, m⟩ := m_at I.hok e hk
  have ku : NkIs s.heap k u := ⟨ky.is I.hok ry, ko⟩
  refine wpAny_call_entry PySem.F.slot_dict_get m.typeIs PySem.F.entry_dict_get ?_ (PySem.F.args_dict_get_3 _ _ _)
  show wpAny _ _ (dictGet a u >>= _) _ _ s
  refine wpAny_bind (get_rows (by rw [Around.in1_units]; omega) ku m fun n => ?_)
  have rv := (rows_val rel k).getD rd
  cases hf : rowAtK rows k with
  | some p =>
    rw [hf] at rv
    exact wpAny_pure ⟨p, rfl, h p { s with toks := n } (I.tok _) rv⟩
  | none =>
    rw [hf] at rv
    show wpAny _ _ (Builtin.Dict.missed a u >>= _) _ _ _
    exact wpAny_bind (wpAny_missed_other nm (wpAny_pure ⟨t, rfl, h t { s with toks := n } (I.tok _) rv⟩))
theorem m_empty {P : Program} {w : World} {H : Hp} (h : Heap) (hb : sysModules < h.objs.size) : ObjOk P w H (h.push { cls := .type "dict", data := .dict #[] }) h.objs.size (dxO w h.objs.size []) := by
  refine ⟨⟨beq_eq_false_iff_ne.mpr (Ne.symm (Nat.ne_of_lt hb)), Nat.zero_le _, [], .nil, ?_⟩, ⟨_, Heap.get?_push_size _ rfl⟩, ?_⟩
  · exact ⟨_, #[], 0, Heap.get?_push_size _ rfl, ⟨rfl, rfl, rfl⟩, rfl, rfl⟩
  · rintro h1 h2 ⟨q1, q2, rows', q3, o', es', ep', q4, q5⟩ q6
    exact ⟨q1, q2, rows', q3, o', es', ep', q6 _ q4, q5⟩
/-- {} , to hold such keys -/
def tDNewM (w : World) : TE := fun _ H Q => ∀ p, H p = none → Q (.ref p) (upd H p (dxO w p []))
theorem pe_dnewM {pos : Pos} : PE X (.Dict [] [] pos) (tDNewM X.w) := ⟨fun pins s σ H Q I h =>
  wpAny_Dict_empty ⟨.ref s.heap.objs.size, _, I.laid (t' := s.toks) (fun _ _ q => Heap.get?_push_of_some _ q) (Nat.le_refl _) (m_empty s.heap I.big), rfl, h _ (I.hok.fresh (Nat.le_refl _))⟩⟩
/-- a dict of either kind -/
def IsM (w : World) (H : Hp) (a : Addr) : Prop := ∃ kvs, H a = some (dxO w a kvs)
def tMGet2 (w : World) (td ty tx : TE) : TE := fun σ H Q => td σ H fun x H1 => ∃ a, x = .ref a ∧ (IsD H1 a ∨ IsM w H1 a) ∧ ty σ H1 fun y H2 => tx σ H2 fun z H3 => ∃ o, (DGet H3 a y o ∨ MGet w H3 a y o) ∧ Q (o.getD z) H3
theorem isM_at (I : Inv X pins σ H s) (d : IsM X.w H a) : s.TypeIs (.ref a) "dict" ∧ (∀ b, Value.ref a = .ref b → ∃ ob, s.heap.get? b = some ob ∧ ob.dict = none) := by
  obtain ⟨kvs, e⟩ := d
  obtain ⟨⟨_, _, _, _, o, es, ep, ho, hc, _⟩, _, _⟩ := I.hok a _ e
  refine ⟨⟨o, ho, hc.1⟩, fun b q => ?_⟩
  cases q
  exact ⟨o, ho, hc.2.1⟩
theorem pe_mget2 {o e f : Expr} {apos cpos : Pos} {td ty tx : TE} (hu : X.A.units + 9 < cLine) (ho : PE X o td) (he : PE X e ty) (hf : PE X f tx) (m : M2 X o "get" apos e f cpos) : PE X (.Call (.Attribute o "get" apos) [e, f] [] cpos) (tMGet2 X.w td ty tx) := by
  refine ⟨fun pins s σ H Q I h => ?_⟩
  refine wpAny_Call_method m.base m.few m.line PySem.F.plainAttrs_dict PySem.F.slot_dict_get PySem.F.type_dict_get (thn (ho.run pins s σ H _ I h) fun v0 s1 ⟨x, H1, I1, rx, a, ex, d, q1⟩ => ?_)
  subst ex
  obtain rfl : v0 = Value.ref a := rx
  have tt : s1.TypeIs (.ref a) "dict" ∧ (∀ b, Value.ref a = .ref b → ∃ ob, s1.heap.get? b = some ob ∧ ob.dict = none) := by
    rcases d with d | d
    · obtain ⟨t1, t2, _⟩ := isD_at I1 d
      exact ⟨t1, t2⟩
    · exact isM_at I1 d
  refine ⟨tt.1, tt.2, ?_⟩
  rw [m.trees]
  refine Calls.callWith_builtin rfl (Calls.evalArgs_plain (Calls.spliced_cons (thn (he.run pins s1 σ H1 _ I1 q1) fun iv s2 ⟨y, H2, I2, ry, q2⟩ => Calls.spliced_cons (thn (hf.run pins s2 σ H2 _ I2 q2) fun fv s3 ⟨z, H3, I3, rz, ov, g, q3⟩ => Calls.spliced_nil ?_))))
  rcases g with g | g
  · exact d_get2 (by omega) I3 g ry rz fun w' s4 I4 rw' => ⟨_, H3, I4, rw', q3⟩
  · exact m_get2 hu I3 g ry rz fun w' s4 I4 rw' => ⟨_, H3, I4, rw', q3⟩
end
end CV
namespace CV
open PySem L2
/-- a key of a dict -/
inductive KD where
  | k (x : Key) | t (xs : List Key)
  deriving DecidableEq
/-! ### plain data; o: it is open (owned here, may be changed) -/
inductive D where
  | non | bl (b : Bool) | int (i : Int) | str (l : List Nat) | tup (ds : List D) | lst (o : Bool) (ds : List D) | ro (ds : List D) | dct (o : Bool) (t : Nat) (ks : List KD) (ds : List D) | mix (o : Bool) (ks : List NK) (ds : List D) | ins (o : Bool) (cl : Str) (ns : List Str) (ds : List D) | xc (cl : Str) (ns : List Str) (ds : List D)
mutual
/-- closed: nothing in it may be changed -/
def clo : D → Bool
  | .non | .bl _ | .int _ | .str _ => true
  | .tup ds => clos ds
  | .lst o ds => !o && clos ds
  | .ro ds => clos ds
  | .dct o _ _ ds => !o && clos ds
  | .mix o _ ds => !o && clos ds
  | .ins o _ _ ds => !o && clos ds
  | .xc _ _ ds => clos ds
def clos : List D → Bool
  | [] => true
  | d :: ds => clo d && clos ds
end
def keyD : Key → D
  | .inl i => .int i
  | .inr s => .str s.cps.toList
/-- t: which kind of keys: 0 ints and texts, 1 tuples of such -/
def DicAt (H : Hp) (t : Nat) (p : Addr) (ks : List KD) (xs : List V) : Prop :=
  (t = 0 ∧ ∃ kvs : List (Key × V), H p = some (.dK kvs) ∧ ks = kvs.map (fun q => .k q.1) ∧ xs = kvs.map (·.2)) ∨
  (t = 1 ∧ ∃ kvs : List (List Key × V), H p = some (.dT kvs) ∧ ks = kvs.map (fun q => .t q.1) ∧ xs = kvs.map (·.2))
structure Wp where
  K : Fg
  cl : Str → Option Addr
  w : World
/-- an exception that was caught, its class at Ca, its dict at d -/
def xcO (a Ca : Addr) (d : Option Addr) : HO := .ext fun h => ∃ oe, h.get? a = some oe ∧ Zc (.ref Ca) d oe ∧ ∃ vs, oe.data = .fields vs
mutual
/-- a value tells data: C what is closed, H what stands; F what it owns -/
inductive RpF (W : Wp) (C H : Hp) : V → D → List Addr → Prop
  | non : RpF W C H .non .non []
  | bl (b : Bool) : RpF W C H (.bl b) (.bl b) []
  | int (i : Int) : RpF W C H (.int i) (.int i) []
  | str (l : List Nat) : RpF W C H (.str (S l)) (.str l) []
  | tup {a : Addr} {xs : List V} {ds : List D} {F : List Addr} : C a = some (.tup xs) → RpFs W C H xs ds F → RpF W C H (.ref a) (.tup ds) F
  | lst {a : Addr} {xs : List V} {ds : List D} : C a = some (.lst xs) → RpFs W C H xs ds [] → RpF W C H (.ref a) (.lst false ds) []
  | ro {a : Addr} {xs : List V} {ds : List D} : SqL W.K C a xs → RpFs W C H xs ds [] → RpF W C H (.ref a) (.ro ds) []
  | own {p : Addr} {xs : List V} {ds : List D} {F : List Addr} : H p = some (.lst xs) → RpFs W C H xs ds F → RpF W C H (.ref p) (.lst true ds) (p :: F)
  | dic {t : Nat} {p : Addr} {ks : List KD} {xs : List V} {ds : List D} : DicAt C t p ks xs → RpFs W C H xs ds [] → RpF W C H (.ref p) (.dct false t ks ds) []
  | dio {t : Nat} {p : Addr} {ks : List KD} {xs : List V} {ds : List D} {F : List Addr} : DicAt H t p ks xs → RpFs W C H xs ds F → RpF W C H (.ref p) (.dct true t ks ds) (p :: F)
  | mic {p : Addr} {kvs : List MRow} {ds : List D} : C p = some (dxO W.w p kvs) → KeysV C kvs → RpFs W C H (kvs.map (·.2.2)) ds [] → RpF W C H (.ref p) (.mix false (kvs.map (·.1)) ds) []
  | mio {p : Addr} {kvs : List MRow} {ds : List D} {F : List Addr} : H p = some (dxO W.w p kvs) → KeysV C kvs → RpFs W C H (kvs.map (·.2.2)) ds F → RpF W C H (.ref p) (.mix true (kvs.map (·.1)) ds) (p :: F)
  | inc {p dx Ca : Addr} {n : Str} {fs : List (Str × V)} {ds : List D} : W.cl n = some Ca → C p = some (.ins Ca dx fs) → C dx = some (.own p) → RpFs W C H (fs.map (·.2)) ds [] → RpF W C H (.ref p) (.ins false n (fs.map (·.1)) ds) []
  | ino {p dx Ca : Addr} {n : Str} {fs : List (Str × V)} {ds : List D} {F : List Addr} : W.cl n = some Ca → H p = some (.ins Ca dx fs) → H dx = some (.own p) → RpFs W C H (fs.map (·.2)) ds F → RpF W C H (.ref p) (.ins true n (fs.map (·.1)) ds) (p :: dx :: F)
  | xc0 {a Ca : Addr} {n : Str} : W.cl n = some Ca → C a = some (xcO a Ca none) → RpF W C H (.ref a) (.xc n [] []) []
  | xc1 {a p Ca : Addr} {n : Str} {fs : List (Str × V)} {ds : List D} : W.cl n = some Ca → C a = some (xcO a Ca (some p)) → C p = some (.xd fs) → RpFs W C H (fs.map (·.2)) ds [] → RpF W C H (.ref a) (.xc n (fs.map (·.1)) ds) []
inductive RpFs (W : Wp) (C H : Hp) : List V → List D → List Addr → Prop
  | nil : RpFs W C H [] [] []
  | cons {v : V} {vs : List V} {d : D} {ds : List D} {F G : List Addr} : RpF W C H v d F → RpFs W C H vs ds G → RpFs W C H (v :: vs) (d :: ds) (F ++ G)
end
theorem DicAt.mono {H H' : Hp} {t : Nat} {p : Addr} {ks : List KD} {xs : List V} (e : H' p = H p ∨ ∀ o, H p = some o → H' p = some o) (h : DicAt H t p ks xs) : DicAt H' t p ks xs := by
  have e' : ∀ o, H p = some o → H' p = some o := fun o q => e.elim (fun z => by rw [z]; exact q) fun z => z o q
  rcases h with ⟨et, kvs, a, b⟩ | ⟨et, kvs, a, b⟩
  · exact .inl ⟨et, kvs, e' _ a, b⟩
  · exact .inr ⟨et, kvs, e' _ a, b⟩
mutual
theorem RpF.mono {W : Wp} {C C' H H' : Hp} (e : Same C C') : ∀ {v : V} {d : D} {F : List Addr}, (∀ a ∈ F, H' a = H a) → RpF W C H v d F → RpF W C' H' v d F
  | _, _, _, _, .non => .non
  | _, _, _, _, .bl b => .bl b
  | _, _, _, _, .int i => .int i
  | _, _, _, _, .str l => .str l
  | _, _, _, k, .tup s a => .tup (e _ _ s) (RpFs.mono e k a)
  | _, _, _, k, .lst s a => .lst (e _ _ s) (RpFs.mono e k a)
  | _, _, _, k, .ro s a => .ro (Same.seq e s) (RpFs.mono e k a)
  | _, _, _, k, .own s a => .own ((k _ (by simp)).trans s) (RpFs.mono e (fun b hb => k b (by simp [hb])) a)
  | _, _, _, k, .dic s a => .dic (s.mono (.inr fun o q => e _ _ q)) (RpFs.mono e k a)
  | _, _, _, k, .dio s a => .dio (s.mono (.inl (k _ (by simp)))) (RpFs.mono e (fun b hb => k b (by simp [hb])) a)
  | _, _, _, k, .mic s q a => .mic (e _ _ s) (q.mono fun b ys => e b _) (RpFs.mono e k a)
  | _, _, _, k, .mio s q a => .mio ((k _ (by simp)).trans s) (q.mono fun b ys => e b _) (RpFs.mono e (fun b hb => k b (by simp [hb])) a)
  | _, _, _, k, .inc n s t a => .inc n (e _ _ s) (e _ _ t) (RpFs.mono e k a)
  | _, _, _, k, .ino n s t a => .ino n ((k _ (by simp)).trans s) ((k _ (by simp)).trans t) (RpFs.mono e (fun b hb => k b (by simp [hb])) a)
  | _, _, _, _, .xc0 n s => .xc0 n (e _ _ s)
  | _, _, _, k, .xc1 n s t a => .xc1 n (e _ _ s) (e _ _ t) (RpFs.mono e k a)
theorem RpFs.mono {W : Wp} {C C' H H' : Hp} (e : Same C C') : ∀ {vs : List V} {ds : List D} {F : List Addr}, (∀ a ∈ F, H' a = H a) → RpFs W C H vs ds F → RpFs W C' H' vs ds F
  | _, _, _, _, .nil => .nil
  | _, _, _, k, .cons h t => .cons (RpF.mono e (fun a ha => k a (List.mem_append_left _ ha)) h) (RpFs.mono e (fun a ha => k a (List.mem_append_right _ ha)) t)
end
theorem DicAt.there {H : Hp} {t : Nat} {p : Addr} {ks : List KD} {xs : List V} (h : DicAt H t p ks xs) : H p ≠ none ∧ ∀ ys, H p ≠ some (.tup ys) := by
  rcases h with ⟨et, kvs, a, b⟩ | ⟨et, kvs, a, b⟩ <;> rw [a] <;> simp
mutual
theorem RpF.there2 {W : Wp} {C H : Hp} : ∀ {v : V} {d : D} {F : List Addr}, RpF W C H v d F → ∀ a ∈ F, H a ≠ none ∧ ∀ ys, H a ≠ some (.tup ys)
  | _, _, _, .non, a, h => by simp at h
  | _, _, _, .bl b, a, h => by simp at h
  | _, _, _, .int i, a, h => by simp at h
  | _, _, _, .str l, a, h => by simp at h
  | _, _, _, .tup s r, a, h => RpFs.there2 r a h
  | _, _, _, .lst s r, a, h => by simp at h
  | _, _, _, .ro s r, a, h => by simp at h
  | _, _, _, .own s r, a, h => by
    rcases List.mem_cons.mp h with q | q
    · rw [q, s]; simp
    · exact RpFs.there2 r a q
  | _, _, _, .dic s r, a, h => by simp at h
  | _, _, _, .dio s r, a, h => by
    rcases List.mem_cons.mp h with q | q
    · rw [q]; exact s.there
    · exact RpFs.there2 r a q
  | _, _, _, .mic s q r, a, h => by simp at h
  | _, _, _, .mio s q r, a, h => by
    rcases List.mem_cons.mp h with z | z
    · rw [z, s]
      exact ⟨by simp, fun ys z2 => by simp [dxO] at z2⟩
    · exact RpFs.there2 r a z
  | _, _, _, .inc n s t r, a, h => by simp at h
  | _, _, _, .ino n s t r, a, h => by
    rcases List.mem_cons.mp h with q | q
    · rw [q, s]; simp
    · rcases List.mem_cons.mp q with q | q
      · rw [q, t]; simp
      · exact RpFs.there2 r a q
  | _, _, _, .xc0 n s, a, h => by simp at h
  | _, _, _, .xc1 n s t r, a, h => by simp at h
theorem RpFs.there2 {W : Wp} {C H : Hp} : ∀ {vs : List V} {ds : List D} {F : List Addr}, RpFs W C H vs ds F → ∀ a ∈ F, H a ≠ none ∧ ∀ ys, H a ≠ some (.tup ys)
  | _, _, _, .nil, a, h => by simp at h
  | _, _, _, .cons r t, a, h => by
    rcases List.mem_append.mp h with q | q
    · exact RpF.there2 r a q
    · exact RpFs.there2 t a q
end
theorem RpF.there {W : Wp} {C H : Hp} {v : V} {d : D} {F : List Addr} (r : RpF W C H v d F) : ∀ a ∈ F, H a ≠ none := fun a h => (r.there2 a h).1
theorem RpFs.there {W : Wp} {C H : Hp} {v : List V} {d : List D} {F : List Addr} (r : RpFs W C H v d F) : ∀ a ∈ F, H a ≠ none := fun a h => (r.there2 a h).1
mutual
theorem RpF.cl0 {W : Wp} {C H : Hp} : ∀ {v : V} {d : D} {F : List Addr}, clo d = true → RpF W C H v d F → F = []
  | _, _, _, _, .non => rfl
  | _, _, _, _, .bl b => rfl
  | _, _, _, _, .int i => rfl
  | _, _, _, _, .str l => rfl
  | _, _, _, h, .tup s r => RpFs.cl0 (by simpa [CV.clo] using h) r
  | _, _, _, h, .lst s r => rfl
  | _, _, _, h, .ro s r => rfl
  | _, _, _, h, .own s r => by simp [CV.clo] at h
  | _, _, _, h, .dic s r => rfl
  | _, _, _, h, .dio s r => by simp [CV.clo] at h
  | _, _, _, h, .mic s q r => rfl
  | _, _, _, h, .mio s q r => by simp [CV.clo] at h
  | _, _, _, h, .inc n s t r => rfl
  | _, _, _, h, .ino n s t r => by simp [CV.clo] at h
  | _, _, _, h, .xc0 n s => rfl
  | _, _, _, h, .xc1 n s t r => rfl
theorem RpFs.cl0 {W : Wp} {C H : Hp} : ∀ {vs : List V} {ds : List D} {F : List Addr}, clos ds = true → RpFs W C H vs ds F → F = []
  | _, _, _, _, .nil => rfl
  | _, _, _, h, .cons r t => by
    have h' := h
    simp only [CV.clos, Bool.and_eq_true] at h'
    rw [RpF.cl0 h'.1 r, RpFs.cl0 h'.2 t]; rfl
end
section
variable {W : Wp} {C H : Hp}
theorem RpF.c {C' H' : Hp} {v : V} {d : D} {F : List Addr} (h : clo d = true) (e : Same C C') (r : RpF W C H v d F) : RpF W C' H' v d [] := by
  have := r.cl0 h
  subst this
  exact r.mono e fun a ha => by simp at ha
theorem RpFs.c {C' H' : Hp} {vs : List V} {ds : List D} {F : List Addr} (h : clos ds = true) (e : Same C C') (r : RpFs W C H vs ds F) : RpFs W C' H' vs ds [] := by
  have := r.cl0 h
  subst this
  exact r.mono e fun a ha => by simp at ha
theorem RpFs.length : ∀ {vs : List V} {ds : List D} {F : List Addr}, RpFs W C H vs ds F → vs.length = ds.length
  | _, _, _, .nil => rfl
  | _, _, _, .cons _ t => congrArg (· + 1) (RpFs.length t)
theorem RpFs.get : ∀ {vs : List V} {ds : List D} {F : List Addr} {i : Nat} {d : D}, RpFs W C H vs ds F → ds[i]? = some d → ∃ v G, vs[i]? = some v ∧ RpF W C H v d G ∧ (∀ a ∈ G, a ∈ F)
  | _, _, _, _, _, .nil, e => by simp at e
  | _, _, _, 0, _, .cons h _, e => by simp at e; subst e; exact ⟨_, _, rfl, h, fun a ha => List.mem_append_left _ ha⟩
  | _, _, _, i + 1, d, .cons _ t, e => by
    obtain ⟨v, G, h1, h2, h3⟩ := RpFs.get (i := i) (d := d) t (by simpa using e)
    exact ⟨v, G, by simpa using h1, h2, fun a ha => List.mem_append_right _ (h3 a ha)⟩
theorem RpFs.getV : ∀ {vs : List V} {ds : List D} {F : List Addr} {i : Nat} {v : V}, RpFs W C H vs ds F → vs[i]? = some v → ∃ d G, ds[i]? = some d ∧ RpF W C H v d G ∧ (∀ a ∈ G, a ∈ F)
  | _, _, _, _, _, .nil, e => by simp at e
  | _, _, _, 0, _, .cons h _, e => by simp at e; subst e; exact ⟨_, _, rfl, h, fun a ha => List.mem_append_left _ ha⟩
  | _, _, _, i + 1, d, .cons _ t, e => by
    obtain ⟨v, G, h1, h2, h3⟩ := RpFs.getV (i := i) (v := d) t (by simpa using e)
    exact ⟨v, G, by simpa using h1, h2, fun a ha => List.mem_append_right _ (h3 a ha)⟩
theorem RpFs.app : ∀ {vs ws : List V} {ds es : List D} {F G : List Addr}, RpFs W C H vs ds F → RpFs W C H ws es G → RpFs W C H (vs ++ ws) (ds ++ es) (F ++ G)
  | _, _, _, _, _, _, .nil, s => s
  | _, _, _, _, _, _, .cons h t, s => by
    rw [List.append_assoc]
    exact .cons h (RpFs.app t s)
theorem RpFs.one {v : V} {d : D} {F : List Addr} (r : RpF W C H v d F) : RpFs W C H [v] [d] F := by
  have := RpFs.cons r .nil
  rwa [List.append_nil] at this
theorem RpFs.snoc {vs : List V} {ds : List D} {v : V} {d : D} {F G : List Addr} (h : RpFs W C H vs ds F) (r : RpF W C H v d G) : RpFs W C H (vs ++ [v]) (ds ++ [d]) (F ++ G) := h.app (.one r)
theorem RpFs.split : ∀ {vs : List V} {ds es : List D} {F : List Addr}, RpFs W C H vs (ds ++ es) F → ∃ us ws G1 G2, vs = us ++ ws ∧ F = G1 ++ G2 ∧ RpFs W C H us ds G1 ∧ RpFs W C H ws es G2
  | vs, [], es, F, h => ⟨[], vs, [], F, rfl, rfl, .nil, h⟩
  | _, d :: ds, es, _, h => by
    cases h with
    | cons h1 h2 =>
      obtain ⟨us, ws, G1, G2, e1, e2, q1, q2⟩ := RpFs.split h2
      exact ⟨_ :: us, ws, _ ++ G1, G2, by rw [e1]; rfl, by rw [e2, List.append_assoc], .cons h1 q1, q2⟩
theorem RpFs.nils {vs : List V} {ds : List D} (h : ∀ (i : Nat) (v : V), vs[i]? = some v → ∃ d, ds[i]? = some d ∧ RpF W C H v d []) (hl : vs.length = ds.length) : RpFs W C H vs ds [] := by
  induction vs generalizing ds with
  | nil =>
    cases ds with
    | nil => exact .nil
    | cons d ds => simp at hl
  | cons v vs ih =>
    cases ds with
    | nil => simp at hl
    | cons d ds =>
      obtain ⟨d', e, r⟩ := h 0 v rfl
      have e' : d = d' := by simpa using e
      subst e'
      exact RpFs.cons (F := []) (G := []) r (ih (fun i w e => by simpa using h (i + 1) w (by simpa using e)) (by simpa using hl))
theorem clos_get {ds : List D} {i : Nat} {d : D} (h : clos ds = true) (e : ds[i]? = some d) : clo d = true := by
  induction ds generalizing i with
  | nil => simp at e
  | cons x ds ih =>
    have h' : clo x = true ∧ clos ds = true := by simpa [clos] using h
    cases i with
    | zero => simp at e; subst e; exact h'.1
    | succ i => exact ih h'.2 (by simpa using e)
theorem clos_all {ds : List D} : clos ds = true ↔ ∀ d ∈ ds, clo d = true := by
  induction ds with
  | nil => simp [clos]
  | cons x ds ih => simp [clos, ih]
theorem clos_map {α : Type} {f : α → D} (h : ∀ a, clo (f a) = true) (l : List α) : clos (l.map f) = true := by
  rw [clos_all]
  intro d hd
  obtain ⟨a, _, e⟩ := List.mem_map.mp hd
  rw [← e]; exact h a
end
/-! ### entries: what is owned here -/
abbrev Ent := V × D
def RpE (W : Wp) (C H : Hp) (L : List Ent) (F : List Addr) : Prop := RpFs W C H (L.map Prod.fst) (L.map Prod.snd) F
theorem RpE.app {W : Wp} {C H : Hp} {L M : List Ent} {F G : List Addr} (h : RpE W C H L F) (k : RpE W C H M G) : RpE W C H (L ++ M) (F ++ G) := by
  unfold RpE at *
  rw [List.map_append, List.map_append]
  exact h.app k
theorem RpE.split {W : Wp} {C H : Hp} {L M : List Ent} {F : List Addr} (h : RpE W C H (L ++ M) F) : ∃ G1 G2, F = G1 ++ G2 ∧ RpE W C H L G1 ∧ RpE W C H M G2 := by
  induction L generalizing F with
  | nil => exact ⟨[], F, rfl, .nil, h⟩
  | cons e L ih =>
    obtain ⟨v, d⟩ := e
    unfold RpE at h
    cases h with
    | cons h1 h2 =>
      obtain ⟨G1, G2, e2, q1, q2⟩ := ih h2
      exact ⟨_ ++ G1, G2, by rw [e2, List.append_assoc], .cons h1 q1, q2⟩
theorem RpE.perm {W : Wp} {C H : Hp} {L L' : List Ent} (p : L.Perm L') : ∀ {F : List Addr}, RpE W C H L F → ∃ F', F'.Perm F ∧ RpE W C H L' F' := by
  induction p with
  | nil => exact fun h => ⟨_, .refl _, h⟩
  | cons x p ih =>
    intro F h
    obtain ⟨v, d⟩ := x
    unfold RpE at h
    cases h with
    | cons h1 h2 =>
      obtain ⟨F', q, r⟩ := ih h2
      exact ⟨_ ++ F', q.append_left _, .cons h1 r⟩
  | swap x y l =>
    intro F h
    obtain ⟨v, d⟩ := x
    obtain ⟨w, e⟩ := y
    unfold RpE at h
    cases h with
    | cons h1 h2 =>
      cases h2 with
      | cons h3 h4 =>
        rename_i F1 F2 F3
        refine ⟨F2 ++ (F1 ++ F3), ?_, .cons h3 (.cons h1 h4)⟩
        rw [← List.append_assoc, ← List.append_assoc]
        exact List.perm_append_comm.append_right _
  | trans p q ih1 ih2 =>
    intro F h
    obtain ⟨F1, a, b⟩ := ih1 h
    obtain ⟨F2, c, d⟩ := ih2 b
    exact ⟨F2, c.trans a, d⟩
/-- the context of a def's run: heap and closed part at the entry, what may be changed of what stood then -/
structure Cn where
  W : Wp
  H0 : Hp
  C0 : Hp
  M : List Addr
  args : Nat → V
abbrev Cn.K (c : Cn) : Fg := c.W.K
structure Wld (c : Cn) (C H : Hp) (L : List Ent) : Prop where
  same : ∀ a o, a ∉ c.M → c.H0 a = some o → H a = some o
  sub : Same C H
  ext : Same c.C0 C
  new : ∀ a o, C a = some o → c.C0 a = none → c.H0 a = none ∨ a ∈ c.M ∨ ∃ ys, c.H0 a = some (.tup ys)
  old : ∀ a, c.H0 a ≠ none → H a ≠ none
  own : ∃ F, RpE c.W C H L F ∧ F.Nodup ∧ ∀ a ∈ F, C a = none ∧ (a ∈ c.M ∨ c.H0 a = none)
section
variable {c : Cn} {C H : Hp} {L L' : List Ent}
/-- less is kept -/
theorem Wld.less {R : List Ent} (k : Wld c C H L) (p : (L' ++ R).Perm L) : Wld c C H L' := by
  obtain ⟨F, h1, h2, h3⟩ := k.own
  obtain ⟨F', q, h4⟩ := h1.perm p.symm
  obtain ⟨G1, G2, e, h5, _⟩ := h4.split
  subst e
  have nd := q.nodup_iff.mpr h2
  exact ⟨k.same, k.sub, k.ext, k.new, k.old, G1, h5, (List.nodup_append.mp nd).1, fun a ha => h3 a (q.mem_iff.mp (List.mem_append_left _ ha))⟩
theorem Wld.perm (k : Wld c C H L) (p : L'.Perm L) : Wld c C H L' := k.less (R := []) (by simpa using p)
theorem Wld.tail {e : Ent} (k : Wld c C H (e :: L)) : Wld c C H L := k.less (R := [e]) (List.perm_append_comm (l₁ := L) (l₂ := [e]))
theorem Wld.dropL {X : List Ent} (k : Wld c C H (X ++ L)) : Wld c C H L := k.less (R := X) List.perm_append_comm
theorem Wld.view {e : Ent} (k : Wld c C H L) (h : e ∈ L) : ∃ F, RpF c.W C H e.1 e.2 F := by
  obtain ⟨F, h1, _, _⟩ := k.own
  obtain ⟨X, Y, e1⟩ := List.append_of_mem h
  subst e1
  obtain ⟨G1, G2, e2, _, q⟩ := h1.split
  unfold RpE at q
  cases q with
  | cons q1 _ => exact ⟨_, q1⟩
/-- a value that owns nothing -/
theorem Wld.push {v : V} {d : D} (k : Wld c C H L) (r : RpF c.W C H v d []) : Wld c C H ((v, d) :: L) := by
  obtain ⟨F, h1, h2, h3⟩ := k.own
  exact ⟨k.same, k.sub, k.ext, k.new, k.old, F, RpFs.cons r h1, h2, h3⟩
/-- a new closed object -/
theorem Wld.laid {p : Addr} {o : HO} (k : Wld c C H L) (hp : H p = none) : Wld c (upd C p o) (upd H p o) L := by
  have hc : C p = none := k.sub.free hp
  obtain ⟨F, h1, h2, h3⟩ := k.own
  have np : ∀ a ∈ F, a ≠ p := fun a ha z => RpFs.there h1 a ha (by rw [z]; exact hp)
  refine ⟨fun a u hm e => ?_, fun a u e => ?_, fun a u e => ?_, fun a u e n => ?_, fun a ha => ?_, F, RpFs.mono (fun a u e => ?_) (fun a ha => upd_ne (np a ha)) h1, h2, fun a ha => ⟨by rw [upd_ne (np a ha)]; exact (h3 a ha).1, (h3 a ha).2⟩⟩
  · have q := k.same a u hm e
    rw [upd_ne (ne_of_none q hp)]; exact q
  · by_cases z : a = p
    · rw [z, upd_same] at e ⊢; exact e
    · rw [upd_ne z] at e ⊢; exact k.sub a u e
  · have q := k.ext a u e
    rw [upd_ne (ne_of_none q hc)]; exact q
  · by_cases z : a = p
    · rw [z]
      exact .inl (Classical.byContradiction fun q => k.old p q hp)
    · rw [upd_ne z] at e
      exact k.new a u e n
  · by_cases z : a = p
    · rw [z, upd_same]; simp
    · rw [upd_ne z]; exact k.old a ha
  · rw [upd_ne (ne_of_none e hc)]; exact e
theorem same_upd {G : Hp} {p : Addr} {o : HO} (hp : G p = none) : Same G (upd G p o) := fun a u e => by rw [upd_ne (ne_of_none e hp)]; exact e
/-- a new open object (outside what is closed) -/
theorem Wld.opened {p : Addr} {o : HO} (k : Wld c C H L) (hp : H p = none) : Wld c C (upd H p o) L := by
  have hc : C p = none := k.sub.free hp
  obtain ⟨F, h1, h2, h3⟩ := k.own
  have np : ∀ a ∈ F, a ≠ p := fun a ha z => RpFs.there h1 a ha (by rw [z]; exact hp)
  refine ⟨fun a u hm e => ?_, fun a u e => ?_, k.ext, k.new, fun a ha => ?_, F, RpFs.mono (Same.refl _) (fun a ha => upd_ne (np a ha)) h1, h2, h3⟩
  · have q := k.same a u hm e
    rw [upd_ne (ne_of_none q hp)]; exact q
  · rw [upd_ne (ne_of_none (k.sub a u e) hp)]; exact k.sub a u e
  · by_cases z : a = p
    · rw [z, upd_same]; simp
    · rw [upd_ne z]; exact k.old a ha
theorem Wld.fresh {p : Addr} (k : Wld c C H L) (hp : H p = none) : C p = none ∧ (p ∈ c.M ∨ c.H0 p = none) := ⟨k.sub.free hp, .inr (Classical.byContradiction fun z => k.old p z hp)⟩
/-- a tuple of the entries ahead -/
theorem Wld.mkTup {p : Addr} {X : List Ent} (k : Wld c C H (X ++ L)) (hp : H p = none) : Wld c (upd C p (.tup (X.map Prod.fst))) (upd H p (.tup (X.map Prod.fst))) ((.ref p, .tup (X.map Prod.snd)) :: L) := by
  have k2 := k.laid (o := .tup (X.map Prod.fst)) hp
  obtain ⟨F, h1, h2, h3⟩ := k2.own
  obtain ⟨G1, G2, e, q1, q2⟩ := h1.split
  subst e
  exact ⟨k2.same, k2.sub, k2.ext, k2.new, k2.old, G1 ++ G2, RpFs.cons (.tup upd_same q1) q2, h2, h3⟩
/-- an open object at p that owns the entries ahead -/
theorem Wld.mkOwn {p : Addr} {o : HO} {X : List Ent} {d : D} (k : Wld c C H (X ++ L)) (hp : H p = none) (hr : ∀ G, RpE c.W C (upd H p o) X G → RpF c.W C (upd H p o) (.ref p) d (p :: G)) : Wld c C (upd H p o) ((.ref p, d) :: L) := by
  have f := k.fresh hp
  have k2 := k.opened (o := o) hp
  obtain ⟨F, h1, h2, h3⟩ := k.own
  have np : ∀ a ∈ F, a ≠ p := fun a ha z => RpFs.there h1 a ha (by rw [z]; exact hp)
  have h1' : RpE c.W C (upd H p o) (X ++ L) F := RpFs.mono (Same.refl _) (fun a ha => upd_ne (np a ha)) h1
  obtain ⟨G1, G2, e, q1, q2⟩ := h1'.split
  subst e
  refine ⟨k2.same, k2.sub, k2.ext, k2.new, k2.old, (p :: G1) ++ G2, RpFs.cons (hr _ q1) q2, ?_, fun a ha => ?_⟩
  · show (p :: (G1 ++ G2)).Nodup
    exact List.nodup_cons.mpr ⟨fun z => np p z rfl, h2⟩
  · rcases List.mem_cons.mp (show a ∈ p :: (G1 ++ G2) from ha) with q | q
    · rw [q]; exact f
    · exact h3 a q
theorem Wld.mkLst {p : Addr} {X : List Ent} (k : Wld c C H (X ++ L)) (hp : H p = none) : Wld c C (upd H p (.lst (X.map Prod.fst))) ((.ref p, .lst true (X.map Prod.snd)) :: L) :=
  k.mkOwn hp fun G q => .own upd_same q
/-- what stands open at p, p's own part changed: o' in the place of o; the entries ahead go into it -/
theorem Wld.mut {p : Addr} {o' : HO} {d d' : D} {X : List Ent} (k : Wld c C H ((.ref p, d) :: (X ++ L)))
    (hr : ∀ F G, RpF c.W C H (.ref p) d F → RpE c.W C H X G → (F ++ G).Nodup → ∃ F', RpF c.W C (upd H p o') (.ref p) d' F' ∧ F'.Nodup ∧ p ∈ F ∧ ∀ a ∈ F', a ∈ F ++ G) : Wld c C (upd H p o') ((.ref p, d') :: L) := by
  obtain ⟨F, h1, h2, h3⟩ := k.own
  unfold RpE at h1
  cases h1 with
  | @cons _ _ _ _ F0 F1 a1 a2 =>
    obtain ⟨G1, G2, e, q1, q2⟩ := RpE.split a2
    subst e
    have nd : (F0 ++ G1).Nodup ∧ G2.Nodup ∧ ∀ a ∈ F0 ++ G1, ∀ b ∈ G2, a ≠ b := by
      rw [← List.append_assoc] at h2
      exact List.nodup_append.mp h2
    obtain ⟨F', r', n', hp, hs⟩ := hr F0 G1 a1 q1 nd.1
    have np : ∀ a ∈ G2, a ≠ p := fun a ha z => nd.2.2 p (List.mem_append_left _ hp) a ha z.symm
    have pf := h3 p (List.mem_append_left _ hp)
    refine ⟨fun a u hm e => ?_, fun a u e => ?_, k.ext, k.new, fun a ha => ?_, F' ++ G2, RpFs.cons r' (RpFs.mono (Same.refl _) (fun a ha => upd_ne (np a ha)) q2), ?_, fun a ha => ?_⟩
    · by_cases z : a = p
      · subst z
        rcases pf.2 with q | q
        · exact absurd q hm
        · rw [e] at q; cases q
      · rw [upd_ne z]; exact k.same a u hm e
    · by_cases z : a = p
      · subst z; rw [pf.1] at e; cases e
      · rw [upd_ne z]; exact k.sub a u e
    · by_cases z : a = p
      · rw [z, upd_same]; simp
      · rw [upd_ne z]; exact k.old a ha
    · rw [List.nodup_append]
      exact ⟨n', nd.2.1, fun a ha b hb => nd.2.2 a (hs a ha) b hb⟩
    · rcases List.mem_append.mp ha with q | q
      · rcases List.mem_append.mp (hs a q) with q | q
        · exact h3 a (List.mem_append_left _ q)
        · exact h3 a (List.mem_append_right _ (List.mem_append_left _ q))
      · exact h3 a (List.mem_append_right _ (List.mem_append_right _ q))
end
end CV
namespace CV
noncomputable section
open PySem L2
/-! ### slots -/
inductive Sl where
  | no | own (d : D) | bor (d : D) | pin | io (d : D)
abbrev Env := List Sl
def slotsE : List (Option V) → Env → List Ent
  | some v :: σ, .own d :: e => (v, d) :: slotsE σ e
  | some v :: σ, .io d :: e => (v, d) :: slotsE σ e
  | _ :: σ, _ :: e => slotsE σ e
  | _, _ => []
def ent1 : Option V → Sl → List Ent
  | some v, .own d => [(v, d)]
  | some v, .io d => [(v, d)]
  | _, _ => []
theorem slots_cons (x : Option V) (y : Sl) (σ : List (Option V)) (e : Env) : slotsE (x :: σ) (y :: e) = ent1 x y ++ slotsE σ e := by
  cases x <;> cases y <;> rfl
theorem ent1_no (x : Option V) : ent1 x .no = [] := by cases x <;> rfl
theorem slots_own {σ : L2.St} {env : Env} {i : Nat} {v : V} {d : D} (h1 : σ[i]? = some (some v)) (h2 : env[i]? = some (.own d)) : ((v, d) :: slotsE σ (env.set i .no)).Perm (slotsE σ env) := by
  induction σ generalizing env i with
  | nil => simp at h1
  | cons x σ ih =>
    cases env with
    | nil => simp at h2
    | cons y env =>
      cases i with
      | zero =>
        have e1 : x = some v := by simpa using h1
        have e2 : y = .own d := by simpa using h2
        subst e1; subst e2
        exact .refl _
      | succ i =>
        have ih' := ih (env := env) (i := i) (by simpa using h1) (by simpa using h2)
        show ((v, d) :: slotsE (x :: σ) (y :: env.set i .no)).Perm (slotsE (x :: σ) (y :: env))
        rw [slots_cons, slots_cons]
        exact List.perm_middle.symm.trans (ih'.append_left _)
theorem slots_io {σ : L2.St} {env : Env} {i : Nat} {v : V} {d : D} (h1 : σ[i]? = some (some v)) (h2 : env[i]? = some (.io d)) : ((v, d) :: slotsE σ (env.set i .pin)).Perm (slotsE σ env) := by
  induction σ generalizing env i with
  | nil => simp at h1
  | cons x σ ih =>
    cases env with
    | nil => simp at h2
    | cons y env =>
      cases i with
      | zero =>
        have e1 : x = some v := by simpa using h1
        have e2 : y = .io d := by simpa using h2
        subst e1; subst e2
        exact .refl _
      | succ i =>
        have ih' := ih (env := env) (i := i) (by simpa using h1) (by simpa using h2)
        show ((v, d) :: slotsE (x :: σ) (y :: env.set i .pin)).Perm (slotsE (x :: σ) (y :: env))
        rw [slots_cons, slots_cons]
        exact List.perm_middle.symm.trans (ih'.append_left _)
theorem slots_pin {σ : L2.St} {env : Env} {i : Nat} : slotsE σ (env.set i .pin) = slotsE σ (env.set i .no) := by
  induction σ generalizing env i with
  | nil => cases env <;> cases i <;> rfl
  | cons x σ ih =>
    cases env with
    | nil => cases i <;> rfl
    | cons y env =>
      cases i with
      | zero => cases x <;> rfl
      | succ i =>
        show slotsE (x :: σ) (y :: env.set i .pin) = slotsE (x :: σ) (y :: env.set i .no)
        rw [slots_cons, slots_cons, ih]
theorem slots_no {σ : L2.St} {env : Env} {i : Nat} : ∃ R, (slotsE σ (env.set i .no) ++ R).Perm (slotsE σ env) := by
  induction σ generalizing env i with
  | nil => exact ⟨[], by cases env <;> cases i <;> exact .refl _⟩
  | cons x σ ih =>
    cases env with
    | nil => exact ⟨[], by rw [List.append_nil]; cases i <;> exact .refl _⟩
    | cons y env =>
      cases i with
      | zero =>
        refine ⟨ent1 x y, ?_⟩
        show (slotsE (x :: σ) (.no :: env) ++ _).Perm (slotsE (x :: σ) (y :: env))
        rw [slots_cons, slots_cons, ent1_no, List.nil_append]
        exact List.perm_append_comm
      | succ i =>
        obtain ⟨R, h⟩ := ih (env := env) (i := i)
        refine ⟨R, ?_⟩
        show (slotsE (x :: σ) (y :: env.set i .no) ++ R).Perm (slotsE (x :: σ) (y :: env))
        rw [slots_cons, slots_cons, List.append_assoc]
        exact h.append_left _
theorem slots_set {σ : L2.St} {env : Env} {i : Nat} {v : V} {d : D} (h : σ.length = env.length) (hi : i < env.length) : (slotsE (σ.set i (some v)) (env.set i (.own d))).Perm ((v, d) :: slotsE σ (env.set i .no)) := by
  induction σ generalizing env i with
  | nil => rw [List.length_nil] at h; omega
  | cons x σ ih =>
    cases env with
    | nil => simp at hi
    | cons y env =>
      cases i with
      | zero => cases x <;> exact .refl _
      | succ i =>
        have ih' := ih (env := env) (i := i) (by simpa using h) (by simpa using hi)
        show (slotsE (x :: σ.set i (some v)) (y :: env.set i (.own d))).Perm ((v, d) :: slotsE (x :: σ) (y :: env.set i .no))
        rw [slots_cons, slots_cons]
        exact (ih'.append_left _).trans List.perm_middle
theorem slots_skip {σ : L2.St} {env : Env} {i : Nat} {x : Option V} : slotsE (σ.set i x) (env.set i .no) = slotsE σ (env.set i .no) := by
  induction σ generalizing env i with
  | nil => rfl
  | cons y σ ih =>
    cases env with
    | nil => cases i <;> cases x <;> cases y <;> rfl
    | cons z env =>
      cases i with
      | zero => cases x <;> cases y <;> rfl
      | succ i =>
        show slotsE (y :: σ.set i x) (z :: env.set i .no) = slotsE (y :: σ) (z :: env.set i .no)
        have ih' := ih (env := env) (i := i)
        cases y <;> cases z <;> simp only [slotsE] <;> first | exact ih' | rw [ih']
structure EnvOk (c : Cn) (σ : L2.St) (env : Env) : Prop where
  len : σ.length = env.length
  own : ∀ (i : Nat) (d : D), env[i]? = some (.own d) → ∃ v, σ[i]? = some (some v)
  bor : ∀ (i : Nat) (d : D), env[i]? = some (.bor d) → ∃ v F, σ[i]? = some (some v) ∧ RpF c.W c.C0 c.H0 v d F ∧ ∀ a ∈ F, a ∉ c.M
  pin : ∀ (i : Nat), env[i]? = some .pin → σ[i]? = some (some (c.args i))
  io : ∀ (i : Nat) (d : D), env[i]? = some (.io d) → σ[i]? = some (some (c.args i))
structure Stt (c : Cn) (C : Hp) (σ : L2.St) (H : Hp) (env : Env) (T : List Ent) : Prop where
  e : EnvOk c σ env
  w : Wld c C H (T ++ slotsE σ env)
/-- a stable view of what stood at the entry -/
theorem Wld.bor {c : Cn} {C H : Hp} {L : List Ent} {v : V} {d : D} {F : List Addr} (k : Wld c C H L) (r : RpF c.W c.C0 c.H0 v d F) (h : ∀ a ∈ F, a ∉ c.M) : RpF c.W C H v d F := by
  refine r.mono k.ext fun a ha => ?_
  cases q : c.H0 a with
  | none => exact absurd q (r.there a ha)
  | some o => exact k.same a o (h a ha) q
section
variable {c : Cn} {C H : Hp} {σ : L2.St} {env : Env} {T T' : List Ent}
theorem Stt.get {i : Nat} {d : D} (s : Stt c C σ H env T) (h : env[i]? = some (.own d) ∨ (env[i]? = some (.bor d) ∨ env[i]? = some (.io d))) : ∃ v F, σ[i]? = some (some v) ∧ RpF c.W C H v d F := by
  rcases h with h | h | h
  · obtain ⟨v, hv⟩ := s.e.own i d h
    have m : (v, d) ∈ T ++ slotsE σ env := List.mem_append_right _ ((slots_own hv h).mem_iff.mp (List.mem_cons_self ..))
    obtain ⟨F, r⟩ := s.w.view m
    exact ⟨v, F, hv, r⟩
  · obtain ⟨v, F, hv, r, n⟩ := s.e.bor i d h
    exact ⟨v, F, hv, s.w.bor r n⟩
  · have hv := s.e.io i d h
    have m : (c.args i, d) ∈ T ++ slotsE σ env := List.mem_append_right _ ((slots_io hv h).mem_iff.mp (List.mem_cons_self ..))
    obtain ⟨F, r⟩ := s.w.view m
    exact ⟨_, F, hv, r⟩
theorem EnvOk.no {i : Nat} {x : Option V} (s : EnvOk c σ env) : EnvOk c (σ.set i x) (env.set i .no) := by
  refine ⟨by rw [List.length_set, List.length_set]; exact s.len, fun j d e => ?_, fun j d e => ?_, fun j e => ?_, fun j d e => ?_⟩
  · by_cases hj : i = j
    · subst hj
      by_cases hl : i < env.length
      · rw [List.getElem?_set_self hl] at e; cases e
      · rw [List.getElem?_eq_none (by rw [List.length_set]; omega)] at e; cases e
    · rw [List.getElem?_set_ne hj] at e ⊢; exact s.own j d e
  · by_cases hj : i = j
    · subst hj
      by_cases hl : i < env.length
      · rw [List.getElem?_set_self hl] at e; cases e
      · rw [List.getElem?_eq_none (by rw [List.length_set]; omega)] at e; cases e
    · rw [List.getElem?_set_ne hj] at e ⊢; exact s.bor j d e
  · by_cases hj : i = j
    · subst hj
      by_cases hl : i < env.length
      · rw [List.getElem?_set_self hl] at e; cases e
      · rw [List.getElem?_eq_none (by rw [List.length_set]; omega)] at e; cases e
    · rw [List.getElem?_set_ne hj] at e ⊢; exact s.pin j e
  · by_cases hj : i = j
    · subst hj
      by_cases hl : i < env.length
      · rw [List.getElem?_set_self hl] at e; cases e
      · rw [List.getElem?_eq_none (by rw [List.length_set]; omega)] at e; cases e
    · rw [List.getElem?_set_ne hj] at e ⊢; exact s.io j d e
theorem EnvOk.no' {i : Nat} (s : EnvOk c σ env) : EnvOk c σ (env.set i .no) := by
  refine ⟨by rw [List.length_set]; exact s.len, fun j d e => ?_, fun j d e => ?_, fun j e => ?_, fun j d e => ?_⟩
  · by_cases hj : i = j
    · subst hj
      by_cases hl : i < env.length
      · rw [List.getElem?_set_self hl] at e; cases e
      · rw [List.getElem?_eq_none (by rw [List.length_set]; omega)] at e; cases e
    · rw [List.getElem?_set_ne hj] at e; exact s.own j d e
  · by_cases hj : i = j
    · subst hj
      by_cases hl : i < env.length
      · rw [List.getElem?_set_self hl] at e; cases e
      · rw [List.getElem?_eq_none (by rw [List.length_set]; omega)] at e; cases e
    · rw [List.getElem?_set_ne hj] at e; exact s.bor j d e
  · by_cases hj : i = j
    · subst hj
      by_cases hl : i < env.length
      · rw [List.getElem?_set_self hl] at e; cases e
      · rw [List.getElem?_eq_none (by rw [List.length_set]; omega)] at e; cases e
    · rw [List.getElem?_set_ne hj] at e; exact s.pin j e
  · by_cases hj : i = j
    · subst hj
      by_cases hl : i < env.length
      · rw [List.getElem?_set_self hl] at e; cases e
      · rw [List.getElem?_eq_none (by rw [List.length_set]; omega)] at e; cases e
    · rw [List.getElem?_set_ne hj] at e; exact s.io j d e
theorem EnvOk.set {i : Nat} {v : V} {d : D} (s : EnvOk c σ env) : EnvOk c (σ.set i (some v)) (env.set i (.own d)) := by
  refine ⟨by rw [List.length_set, List.length_set]; exact s.len, fun j d e => ?_, fun j d e => ?_, fun j e => ?_, fun j d e => ?_⟩
  · by_cases hj : i = j
    · subst hj
      by_cases hl : i < env.length
      · exact ⟨v, List.getElem?_set_self (by rw [s.len]; exact hl)⟩
      · rw [List.getElem?_eq_none (by rw [List.length_set]; omega)] at e; cases e
    · rw [List.getElem?_set_ne hj] at e ⊢; exact s.own j d e
  · by_cases hj : i = j
    · subst hj
      by_cases hl : i < env.length
      · rw [List.getElem?_set_self hl] at e; cases e
      · rw [List.getElem?_eq_none (by rw [List.length_set]; omega)] at e; cases e
    · rw [List.getElem?_set_ne hj] at e ⊢; exact s.bor j d e
  · by_cases hj : i = j
    · subst hj
      by_cases hl : i < env.length
      · rw [List.getElem?_set_self hl] at e; cases e
      · rw [List.getElem?_eq_none (by rw [List.length_set]; omega)] at e; cases e
    · rw [List.getElem?_set_ne hj] at e ⊢; exact s.pin j e
  · by_cases hj : i = j
    · subst hj
      by_cases hl : i < env.length
      · rw [List.getElem?_set_self hl] at e; cases e
      · rw [List.getElem?_eq_none (by rw [List.length_set]; omega)] at e; cases e
    · rw [List.getElem?_set_ne hj] at e ⊢; exact s.io j d e
/-- a value goes to a slot -/
theorem Stt.set {i : Nat} {v : V} {d : D} (s : Stt c C σ H env ((v, d) :: T)) : Stt c C (σ.set i (some v)) H (env.set i (.own d)) T := by
  by_cases hi : i < env.length
  · refine ⟨s.e.set, ?_⟩
    obtain ⟨R, hR⟩ := slots_no (σ := σ) (env := env) (i := i)
    refine s.w.less (R := R) ?_
    have p1 := slots_set (σ := σ) (env := env) (i := i) (v := v) (d := d) s.e.len hi
    have p2 : (T ++ slotsE (σ.set i (some v)) (env.set i (.own d)) ++ R).Perm (T ++ ((v, d) :: slotsE σ (env.set i .no)) ++ R) := (p1.append_left T).append_right R
    refine p2.trans ?_
    have p3 : (T ++ ((v, d) :: slotsE σ (env.set i .no)) ++ R).Perm (T ++ ((v, d) :: slotsE σ env)) := by
      rw [List.append_assoc]
      exact (hR.cons _).append_left T
    exact p3.trans List.perm_middle
  · have e1 : σ.set i (some v) = σ := by rw [List.set_eq_of_length_le (by have := s.e.len; omega)]
    have e2 : env.set i (.own d) = env := by rw [List.set_eq_of_length_le (by omega)]
    rw [e1, e2]
    exact ⟨s.e, s.w.tail⟩
/-- what a slot holds is taken out of it -/
theorem Stt.move {i : Nat} {d : D} (s : Stt c C σ H env T) (h : env[i]? = some (.own d)) : ∃ v, σ[i]? = some (some v) ∧ Stt c C σ H (env.set i .no) ((v, d) :: T) := by
  obtain ⟨v, hv⟩ := s.e.own i d h
  refine ⟨v, hv, s.e.no', s.w.perm ?_⟩
  show ((v, d) :: (T ++ slotsE σ (env.set i .no))).Perm _
  exact List.perm_middle.symm.trans ((slots_own hv h).append_left T)
/-- a slot is wiped -/
theorem Stt.wipe {i : Nat} {x : Option V} (s : Stt c C σ H env T) : Stt c C (σ.set i x) H (env.set i .no) T := by
  refine ⟨s.e.no, ?_⟩
  rw [slots_skip]
  obtain ⟨R, hR⟩ := slots_no (σ := σ) (env := env) (i := i)
  refine s.w.less (R := R) ?_
  rw [List.append_assoc]
  exact hR.append_left T
theorem Stt.forget {i : Nat} (s : Stt c C σ H env T) : Stt c C σ H (env.set i .no) T := by
  refine ⟨s.e.no', ?_⟩
  obtain ⟨R, hR⟩ := slots_no (σ := σ) (env := env) (i := i)
  refine s.w.less (R := R) ?_
  rw [List.append_assoc]
  exact hR.append_left T
theorem Stt.tail {e : Ent} (s : Stt c C σ H env (e :: T)) : Stt c C σ H env T := ⟨s.e, s.w.tail⟩
theorem Stt.push {v : V} {d : D} (s : Stt c C σ H env T) (r : RpF c.W C H v d []) : Stt c C σ H env ((v, d) :: T) := ⟨s.e, s.w.push r⟩
end
/-! ### answers -/
structure Exc where
  cl : Str
  ns : List Str
  ds : List D
inductive O (α : Type) where
  | bad | ok (a : α) | exc (x : Exc)
def O.bind {α β : Type} : O α → (α → O β) → O β
  | .bad, _ => .bad
  | .ok a, f => f a
  | .exc x, _ => .exc x
@[simp] theorem O.bind_ok {α β : Type} (a : α) (f : α → O β) : (O.ok a).bind f = f a := rfl
@[simp] theorem O.bind_exc {α β : Type} (x : Exc) (f : α → O β) : (O.exc x : O α).bind f = .exc x := rfl
@[simp] theorem O.bind_bad {α β : Type} (f : α → O β) : (O.bad : O α).bind f = .bad := rfl
def O.of {α : Type} : Option α → O α
  | some a => .ok a
  | none => .bad
@[simp] theorem O.of_some {α : Type} (a : α) : O.of (some a) = .ok a := rfl
@[simp] theorem O.of_none {α : Type} : O.of (none : Option α) = .bad := rfl
def XR (W : Wp) (C : Hp) (x : Exc) (cls : Value) (dx : Option Addr) : Prop :=
  ∃ Ca, W.cl x.cl = some Ca ∧ cls = .ref Ca ∧ ((x.ns = [] ∧ dx = none) ∨ ∃ p fs, dx = some p ∧ C p = some (.xd fs) ∧ fs.map (·.1) = x.ns ∧ RpFs W C C (fs.map (·.2)) x.ds [])
abbrev FP := Env → O D
abbrev FA := Env → O (List D)
abbrev FT := Env → O Bool
section
variable (c : Cn) (W : WX)
/-- an expression is viewed -/
def RV (te : TE) (fe : FP) : Prop := ∀ (σ : L2.St) (H C : Hp) (env : Env) (T : List Ent), Stt c C σ H env T → ∀ Q : VK,
  (∀ d v H' C' F, fe env = .ok d → Stt c C' σ H' env T → Same C C' → Same H H' → RpF c.W C' H' v d F → Q v H') →
  (∀ x cl dx H' C', fe env = .exc x → Stt c C' σ H' env T → Same C C' → Same H H' → XR c.W C' x cl dx → W cl dx σ H') →
  fe env ≠ .bad → te σ H Q
/-- .. is made: its value is a new entry -/
def RP (te : TE) (fe : FP) : Prop := ∀ (σ : L2.St) (H C : Hp) (env : Env) (T : List Ent), Stt c C σ H env T → ∀ Q : VK,
  (∀ d v H' C', fe env = .ok d → Stt c C' σ H' env ((v, d) :: T) → Same C C' → Same H H' → Q v H') →
  (∀ x cl dx H' C', fe env = .exc x → Stt c C' σ H' env T → Same C C' → Same H H' → XR c.W C' x cl dx → W cl dx σ H') →
  fe env ≠ .bad → te σ H Q
def RT (tt : TT) (ft : FT) : Prop := ∀ (σ : L2.St) (H C : Hp) (env : Env) (T : List Ent), Stt c C σ H env T → ∀ Q : Bool → Hp → Prop,
  (∀ b H' C', ft env = .ok b → Stt c C' σ H' env T → Same C C' → Same H H' → Q b H') →
  (∀ x cl dx H' C', ft env = .exc x → Stt c C' σ H' env T → Same C C' → Same H H' → XR c.W C' x cl dx → W cl dx σ H') →
  ft env ≠ .bad → tt σ H Q
def RAV (ta : TA) (fa : FA) : Prop := ∀ (σ : L2.St) (H C : Hp) (env : Env) (T : List Ent), Stt c C σ H env T → ∀ Q : List V → Hp → Prop,
  (∀ ds vs H' C' F, fa env = .ok ds → Stt c C' σ H' env T → Same C C' → Same H H' → RpFs c.W C' H' vs ds F → Q vs H') →
  (∀ x cl dx H' C', fa env = .exc x → Stt c C' σ H' env T → Same C C' → Same H H' → XR c.W C' x cl dx → W cl dx σ H') →
  fa env ≠ .bad → ta σ H Q
def RAP (ta : TA) (fa : FA) : Prop := ∀ (σ : L2.St) (H C : Hp) (env : Env) (T : List Ent), Stt c C σ H env T → ∀ Q : List V → Hp → Prop,
  (∀ ds vs H' C', fa env = .ok ds → vs.length = ds.length → Stt c C' σ H' env (vs.zip ds ++ T) → Same C C' → Same H H' → Q vs H') →
  (∀ x cl dx H' C', fa env = .exc x → Stt c C' σ H' env T → Same C C' → Same H H' → XR c.W C' x cl dx → W cl dx σ H') →
  fa env ≠ .bad → ta σ H Q
end
/-! ### the combinators' meaning -/
def fC (d : D) : FP := fun _ => .ok d
def fVar (i : Nat) : FP := fun env => match env[i]? with
  | some (.own d) => .ok d
  | some (.bor d) => .ok d
  | some (.io d) => .ok d
  | _ => .bad
def fClo (f : FP) : FP := fun env => (f env).bind fun d => if clo d = true then .ok d else .bad
def fOp (g : D → D → Option D) (a b : FP) : FP := fun env => (a env).bind fun x => (b env).bind fun y => .of (g x y)
def fAnd (a b : FP) : FP := fun env => (a env).bind fun x => match x with
  | .bl true => b env
  | .bl false => .ok (.bl false)
  | _ => .bad
def fOr (a b : FP) : FP := fun env => (a env).bind fun x => match x with
  | .bl true => .ok (.bl true)
  | .bl false => b env
  | _ => .bad
def fNot (a : FP) : FP := fun env => (a env).bind fun x => match x with
  | .bl b => .ok (.bl (!b))
  | _ => .bad
def fIf (t : FT) (a b : FP) : FP := fun env => (t env).bind fun x => if x = true then a env else b env
def ftB (a : FP) : FT := fun env => (a env).bind fun x => match x with
  | .bl b => .ok b
  | _ => .bad
def ftNot (a : FT) : FT := fun env => (a env).bind fun b => .ok (!b)
def ftAnd (a b : FT) : FT := fun env => (a env).bind fun x => if x = true then b env else .ok false
def ftOr (a b : FT) : FT := fun env => (a env).bind fun x => if x = true then .ok true else b env
def ftYes : FT := fun _ => .ok true
def fNil : FA := fun _ => .ok []
def fCons (a : FP) (b : FA) : FA := fun env => (a env).bind fun d => (b env).bind fun ds => .ok (d :: ds)
def fApp (g : List D → Option D) (a : FA) : FP := fun env => (a env).bind fun ds => .of (g ds)
def fChain (g g' : D → D → Option D) (a b e : FP) : FP := fun env => (a env).bind fun x => (b env).bind fun y => (O.of (g x y)).bind fun z => match z with
  | .bl true => (e env).bind fun w => .of (g' y w)
  | .bl false => .ok (.bl false)
  | _ => .bad
section
variable {c : Cn} {W : WX} {te ta tb : TE} {fe fa fb : FP} {tt tu : TT} {ft fu : FT} {tas : TA} {fas : FA}
theorem RP.v (h : RP c W te fe) : RV c W te fe := fun σ H C env T s Q q x nb => h σ H C env T s Q (fun d v H' C' e s' s1 t1 => by
  obtain ⟨F, r⟩ := s'.w.view (e := (v, d)) (by simp)
  exact q d v H' C' F e s'.tail s1 t1 r) x nb
theorem RV.p (h : RV c W te fe) : RP c W te (fClo fe) := fun σ H C env T s Q q x nb => h σ H C env T s Q (fun d v H' C' F e s' s1 t1 r => by
    by_cases hc : clo d = true
    · exact q d v H' C' (by unfold fClo; rw [e]; simp [hc]) (s'.push (r.c hc (Same.refl _))) s1 t1
    · exact absurd (by unfold fClo; rw [e]; simp [hc]) nb)
  (fun y cl dx H' C' e => x y cl dx H' C' (by unfold fClo; rw [e]; rfl)) (fun e => nb (by unfold fClo; rw [e]; rfl))
theorem rv_var {i : Nat} : RV c W (tVar i) (fVar i) := fun σ H C env T s Q q x nb => by
  have go : ∀ d, (env[i]? = some (.own d) ∨ (env[i]? = some (.bor d) ∨ env[i]? = some (.io d))) → fVar i env = .ok d → tVar i σ H Q := fun d h e => by
    obtain ⟨v, F, hv, r⟩ := s.get h
    exact ⟨v, hv, q d v H C F e s (Same.refl _) (Same.refl _) r⟩
  cases h : env[i]? with
  | none => exact absurd (by unfold fVar; rw [h]) nb
  | some z =>
    cases z with
    | no => exact absurd (by unfold fVar; rw [h]) nb
    | own d => exact go d (.inl h) (by unfold fVar; rw [h])
    | bor d => exact go d (.inr (.inl h)) (by unfold fVar; rw [h])
    | pin => exact absurd (by unfold fVar; rw [h]) nb
    | io d => exact go d (.inr (.inr h)) (by unfold fVar; rw [h])
theorem rp_c {v : V} {d : D} (r : ∀ C H, RpF c.W C H v d []) : RP c W (tC v) (fC d) := fun σ H C env T s Q q x nb => q d v H C rfl (s.push (r C H)) (Same.refl _) (Same.refl _)
theorem rp_int {i : Int} : RP c W (tC (.int i)) (fC (.int i)) := rp_c fun _ _ => .int i
theorem rp_bl {i : Bool} : RP c W (tC (.bl i)) (fC (.bl i)) := rp_c fun _ _ => .bl i
theorem rp_non : RP c W (tC .non) (fC .non) := rp_c fun _ _ => .non
theorem rp_str {l : List Nat} : RP c W (tC (.str (S l))) (fC (.str l)) := rp_c fun _ _ => .str l
/-- an operation: its answer a new entry, all else stays -/
def OpG (c : Cn) (r : R2) (g : D → D → Option D) : Prop := ∀ (C H : Hp) (L : List Ent) (x y : V) (d1 d2 d : D) (F1 F2 : List Addr), Wld c C H L → RpF c.W C H x d1 F1 → RpF c.W C H y d2 F2 → g d1 d2 = some d →
  ∀ Q : VK, (∀ v H' C', Wld c C' H' ((v, d) :: L) → Same C C' → Same H H' → Q v H') → r x y H Q
theorem same_fp {H H1 : Hp} {F : List Addr} (h : ∀ a ∈ F, H a ≠ none) (t : Same H H1) : ∀ a ∈ F, H1 a = H a := fun a ha => by
  cases q : H a with
  | none => exact absurd q (h a ha)
  | some o => exact t a o q
theorem RpF.keep {W : Wp} {C C' H H' : Hp} {v : V} {d : D} {F : List Addr} (r : RpF W C H v d F) (s : Same C C') (t : Same H H') : RpF W C' H' v d F := r.mono s (same_fp r.there t)
theorem RpFs.keep {W : Wp} {C C' H H' : Hp} {v : List V} {d : List D} {F : List Addr} (r : RpFs W C H v d F) (s : Same C C') (t : Same H H') : RpFs W C' H' v d F := r.mono s (same_fp r.there t)
theorem rp_op {r : R2} {g : D → D → Option D} (hr : OpG c r g) (ha : RV c W ta fa) (hb : RV c W tb fb) : RP c W (tOp r ta tb) (fOp g fa fb) := fun σ H C env T s Q q x nb =>
  ha σ H C env T s _ (fun d1 v1 H1 C1 F1 e1 s1 k1 t1 r1 => hb σ H1 C1 env T s1 _ (fun d2 v2 H2 C2 F2 e2 s2 k2 t2 r2 => by
      have ee : fOp g fa fb env = O.of (g d1 d2) := by unfold fOp; rw [e1, O.bind_ok, e2, O.bind_ok]
      cases eg : g d1 d2 with
      | none => exact absurd (by rw [ee, eg]; rfl) nb
      | some d => exact hr C2 H2 _ v1 v2 d1 d2 d F1 F2 s2.w (r1.keep k2 t2) r2 eg Q fun v H3 C3 w3 k3 t3 => q d v H3 C3 (by rw [ee, eg]; rfl) ⟨s2.e, w3⟩ ((k1.trans k2).trans k3) ((t1.trans t2).trans t3))
    (fun y cl dx H' C' e2 s2 k2 t2 => x y cl dx H' C' (by unfold fOp; rw [e1, O.bind_ok, e2]; rfl) s2 (k1.trans k2) (t1.trans t2))
    (fun e2 => nb (by unfold fOp; rw [e1, O.bind_ok, e2]; rfl)))
  (fun y cl dx H' C' e1 => x y cl dx H' C' (by unfold fOp; rw [e1]; rfl)) (fun e1 => nb (by unfold fOp; rw [e1]; rfl))
/-- .. its answer a view -/
def OpW (c : Cn) (r : R2) (g : D → D → Option D) : Prop := ∀ (C H : Hp) (x y : V) (d1 d2 d : D) (F1 F2 : List Addr), Same C H → RpF c.W C H x d1 F1 → RpF c.W C H y d2 F2 → g d1 d2 = some d →
  ∀ Q : VK, (∀ v F, RpF c.W C H v d F → Q v H) → r x y H Q
theorem rv_op {r : R2} {g : D → D → Option D} (hr : OpW c r g) (ha : RV c W ta fa) (hb : RV c W tb fb) : RV c W (tOp r ta tb) (fOp g fa fb) := fun σ H C env T s Q q x nb =>
  ha σ H C env T s _ (fun d1 v1 H1 C1 F1 e1 s1 k1 t1 r1 => hb σ H1 C1 env T s1 _ (fun d2 v2 H2 C2 F2 e2 s2 k2 t2 r2 => by
      have ee : fOp g fa fb env = O.of (g d1 d2) := by unfold fOp; rw [e1, O.bind_ok, e2, O.bind_ok]
      cases eg : g d1 d2 with
      | none => exact absurd (by rw [ee, eg]; rfl) nb
      | some d => exact hr C2 H2 v1 v2 d1 d2 d F1 F2 s2.w.sub (r1.keep k2 t2) r2 eg Q fun v F r3 => q d v H2 C2 F (by rw [ee, eg]; rfl) s2 (k1.trans k2) (t1.trans t2) r3)
    (fun y cl dx H' C' e2 s2 k2 t2 => x y cl dx H' C' (by unfold fOp; rw [e1, O.bind_ok, e2]; rfl) s2 (k1.trans k2) (t1.trans t2))
    (fun e2 => nb (by unfold fOp; rw [e1, O.bind_ok, e2]; rfl)))
  (fun y cl dx H' C' e1 => x y cl dx H' C' (by unfold fOp; rw [e1]; rfl)) (fun e1 => nb (by unfold fOp; rw [e1]; rfl))
/-! tests -/
theorem rt_b (ha : RV c W ta fa) : RT c W (tB ta) (ftB fa) := fun σ H C env T s Q q x nb =>
  ha σ H C env T s _ (fun d1 v1 H1 C1 F1 e1 s1 k1 t1 r1 => by
    unfold ftB at q x nb
    rw [e1, O.bind_ok] at q x nb
    cases r1 with
    | bl b => exact ⟨b, rfl, q _ H1 C1 rfl s1 k1 t1⟩
    | _ => exact absurd rfl nb)
  (fun y cl dx H' C' e1 => x y cl dx H' C' (by unfold ftB; rw [e1]; rfl)) (fun e1 => nb (by unfold ftB; rw [e1]; rfl))
theorem rt_test (ha : RV c W ta fa) : RT c W (tTest ta) (ftB fa) := rt_b ha
theorem rt_yes : RT c W tYes ftYes := fun σ H C env T s Q q x nb => q true H C rfl s (Same.refl _) (Same.refl _)
theorem rt_not (ha : RT c W tt ft) : RT c W (tNot tt) (ftNot ft) := fun σ H C env T s Q q x nb =>
  ha σ H C env T s _ (fun b H1 C1 e1 s1 k1 t1 => q _ H1 C1 (by unfold ftNot; rw [e1]; rfl) s1 k1 t1)
  (fun y cl dx H' C' e1 => x y cl dx H' C' (by unfold ftNot; rw [e1]; rfl)) (fun e1 => nb (by unfold ftNot; rw [e1]; rfl))
theorem rt_and (ha : RT c W tt ft) (hb : RT c W tu fu) : RT c W (tAnd tt tu) (ftAnd ft fu) := fun σ H C env T s Q q x nb =>
  ha σ H C env T s _ (fun b H1 C1 e1 s1 k1 t1 => by
    unfold ftAnd at q x nb
    rw [e1, O.bind_ok] at q x nb
    cases b with
    | true =>
      rw [if_pos rfl] at q x nb ⊢
      exact hb σ H1 C1 env T s1 Q (fun b H' C' e s' k t => q b H' C' e s' (k1.trans k) (t1.trans t)) (fun y cl dx H' C' e s' k t => x y cl dx H' C' e s' (k1.trans k) (t1.trans t)) nb
    | false =>
      rw [if_neg Bool.false_ne_true] at q x nb ⊢
      exact q _ H1 C1 rfl s1 k1 t1)
  (fun y cl dx H' C' e1 => x y cl dx H' C' (by unfold ftAnd; rw [e1]; rfl)) (fun e1 => nb (by unfold ftAnd; rw [e1]; rfl))
theorem rt_or (ha : RT c W tt ft) (hb : RT c W tu fu) : RT c W (tOr tt tu) (ftOr ft fu) := fun σ H C env T s Q q x nb =>
  ha σ H C env T s _ (fun b H1 C1 e1 s1 k1 t1 => by
    unfold ftOr at q x nb
    rw [e1, O.bind_ok] at q x nb
    cases b with
    | true =>
      rw [if_pos rfl] at q x nb ⊢
      exact q _ H1 C1 rfl s1 k1 t1
    | false =>
      rw [if_neg Bool.false_ne_true] at q x nb ⊢
      exact hb σ H1 C1 env T s1 Q (fun b H' C' e s' k t => q b H' C' e s' (k1.trans k) (t1.trans t)) (fun y cl dx H' C' e s' k t => x y cl dx H' C' e s' (k1.trans k) (t1.trans t)) nb)
  (fun y cl dx H' C' e1 => x y cl dx H' C' (by unfold ftOr; rw [e1]; rfl)) (fun e1 => nb (by unfold ftOr; rw [e1]; rfl))
/-! several -/
theorem rav_nil : RAV c W tNil fNil := fun σ H C env T s Q q x nb => q [] [] H C [] rfl s (Same.refl _) (Same.refl _) .nil
theorem rav_cons (ha : RV c W ta fa) (hb : RAV c W tas fas) : RAV c W (tCons ta tas) (fCons fa fas) := fun σ H C env T s Q q x nb =>
  ha σ H C env T s _ (fun d1 v1 H1 C1 F1 e1 s1 k1 t1 r1 => hb σ H1 C1 env T s1 _ (fun ds vs H2 C2 F2 e2 s2 k2 t2 r2 =>
      q _ _ H2 C2 _ (by unfold fCons; rw [e1, O.bind_ok, e2]; rfl) s2 (k1.trans k2) (t1.trans t2) (.cons (r1.keep k2 t2) r2))
    (fun y cl dx H' C' e2 s2 k2 t2 => x y cl dx H' C' (by unfold fCons; rw [e1, O.bind_ok, e2]; rfl) s2 (k1.trans k2) (t1.trans t2))
    (fun e2 => nb (by unfold fCons; rw [e1, O.bind_ok, e2]; rfl)))
  (fun y cl dx H' C' e1 => x y cl dx H' C' (by unfold fCons; rw [e1]; rfl)) (fun e1 => nb (by unfold fCons; rw [e1]; rfl))
theorem rap_nil : RAP c W tNil fNil := fun σ H C env T s Q q x nb => q [] [] H C rfl rfl s (Same.refl _) (Same.refl _)
theorem rap_cons (ha : RP c W ta fa) (hb : RAP c W tas fas) : RAP c W (tCons ta tas) (fCons fa fas) := fun σ H C env T s Q q x nb =>
  ha σ H C env T s _ (fun d1 v1 H1 C1 e1 s1 k1 t1 => hb σ H1 C1 env _ s1 _ (fun ds vs H2 C2 e2 hl s2 k2 t2 =>
      q _ _ H2 C2 (by unfold fCons; rw [e1, O.bind_ok, e2]; rfl) (by simp [hl]) ⟨s2.e, s2.w.perm (by
        show ((v1, d1) :: (vs.zip ds) ++ T ++ slotsE σ env).Perm (vs.zip ds ++ (v1, d1) :: T ++ slotsE σ env)
        exact (List.perm_middle.symm).append_right _)⟩ (k1.trans k2) (t1.trans t2))
    (fun y cl dx H' C' e2 s2 k2 t2 => x y cl dx H' C' (by unfold fCons; rw [e1, O.bind_ok, e2]; rfl) s2.tail (k1.trans k2) (t1.trans t2))
    (fun e2 => nb (by unfold fCons; rw [e1, O.bind_ok, e2]; rfl)))
  (fun y cl dx H' C' e1 => x y cl dx H' C' (by unfold fCons; rw [e1]; rfl)) (fun e1 => nb (by unfold fCons; rw [e1]; rfl))
theorem zip_fst {vs : List V} {ds : List D} (h : vs.length = ds.length) : (vs.zip ds).map Prod.fst = vs := by
  rw [List.map_fst_zip]; omega
theorem zip_snd {vs : List V} {ds : List D} (h : vs.length = ds.length) : (vs.zip ds).map Prod.snd = ds := by
  rw [List.map_snd_zip]; omega
def gTup' (ds : List D) : Option D := @ite _ (ds.length ≤ 16777216) (Classical.propDecidable _) (some (.tup ds)) none
def gLst' (ds : List D) : Option D := @ite _ (ds.length ≤ 16777216) (Classical.propDecidable _) (some (.lst true ds)) none
theorem rp_tup (ha : RAP c W tas fas) : RP c W (tTup tas) (fApp gTup' fas) := fun σ H C env T s Q q x nb =>
  ha σ H C env T s _ (fun ds vs H1 C1 e1 hl s1 k1 t1 => by
    have ee : fApp gTup' fas env = O.of (gTup' ds) := by unfold fApp; rw [e1]; rfl
    by_cases hz : ds.length ≤ 16777216
    · have ee2 : fApp gTup' fas env = .ok (.tup ds) := by rw [ee]; unfold gTup'; rw [if_pos hz]; rfl
      refine ⟨by rw [hl]; exact hz, fun p hp => ?_⟩
      have w2 := (show Wld c C1 H1 (vs.zip ds ++ (T ++ slotsE σ env)) by rw [← List.append_assoc]; exact s1.w).mkTup hp
      rw [zip_fst hl, zip_snd hl] at w2
      exact q _ _ _ _ ee2 ⟨s1.e, w2⟩ (k1.trans (same_upd (s1.w.sub.free hp))) (t1.trans (same_upd hp))
    · exact absurd (by rw [ee]; unfold gTup'; rw [if_neg hz]; rfl) nb)
  (fun y cl dx H' C' e1 => x y cl dx H' C' (by unfold fApp; rw [e1]; rfl)) (fun e1 => nb (by unfold fApp; rw [e1]; rfl))
theorem rp_lst (ha : RAP c W tas fas) : RP c W (tLst tas) (fApp gLst' fas) := fun σ H C env T s Q q x nb =>
  ha σ H C env T s _ (fun ds vs H1 C1 e1 hl s1 k1 t1 => by
    have ee : fApp gLst' fas env = O.of (gLst' ds) := by unfold fApp; rw [e1]; rfl
    by_cases hz : ds.length ≤ 16777216
    · have ee2 : fApp gLst' fas env = .ok (.lst true ds) := by rw [ee]; unfold gLst'; rw [if_pos hz]; rfl
      refine ⟨by rw [hl]; exact hz, fun p hp => ?_⟩
      have w2 := (show Wld c C1 H1 (vs.zip ds ++ (T ++ slotsE σ env)) by rw [← List.append_assoc]; exact s1.w).mkLst hp
      rw [zip_fst hl, zip_snd hl] at w2
      exact q _ _ _ _ ee2 ⟨s1.e, w2⟩ k1 (t1.trans (same_upd hp))
    · exact absurd (by rw [ee]; unfold gLst'; rw [if_neg hz]; rfl) nb)
  (fun y cl dx H' C' e1 => x y cl dx H' C' (by unfold fApp; rw [e1]; rfl)) (fun e1 => nb (by unfold fApp; rw [e1]; rfl))
theorem rp_chain {r r' : R2} {g g' : D → D → Option D} {tc : TE} {fc : FP} (hr : OpG c r g) (hr' : OpG c r' g') (ha : RV c W ta fa) (hb : RP c W tb (fClo fb)) (hc : RV c W tc fc) : RP c W (tChain r r' ta tb tc) (fChain g g' fa (fClo fb) fc) := fun σ H C env T s Q q x nb =>
  ha σ H C env T s _ (fun d1 v1 H1 C1 F1 e1 s1 k1 t1 r1 => hb σ H1 C1 env T s1 _ (fun d2 v2 H2 C2 e2 s2 k2 t2 => by
      have hcl : clo d2 = true := by
        unfold fClo at e2
        cases h : fb env with
        | bad => rw [h] at e2; cases e2
        | exc y => rw [h] at e2; cases e2
        | ok z =>
          rw [h, O.bind_ok] at e2
          by_cases hz : clo z = true
          · rw [if_pos hz] at e2; cases e2; exact hz
          · rw [if_neg hz] at e2; cases e2
      obtain ⟨F2, r2⟩ := s2.w.view (e := (v2, d2)) (by simp)
      have r2c := r2.c hcl (Same.refl C2) (H' := H2)
      unfold fChain at q x nb
      rw [e1, O.bind_ok, e2, O.bind_ok] at q x nb
      cases eg : g d1 d2 with
      | none => rw [eg] at nb; exact absurd rfl nb
      | some d =>
        rw [eg, O.of_some, O.bind_ok] at q x nb
        refine hr C2 H2 _ v1 v2 d1 d2 d F1 [] s2.tail.w (r1.keep k2 t2) r2c eg _ fun v H3 C3 w3 k3 t3 => ?_
        obtain ⟨F3, r3⟩ := w3.view (e := (v, d)) (by simp)
        have r3' : RpF c.W C3 H3 v d F3 := r3
        cases r3' with
        | bl b =>
          refine ⟨b, rfl, ?_⟩
          cases b with
          | true =>
            rw [if_pos rfl]
            refine hc σ H3 C3 env T ⟨s2.e, w3.tail⟩ _ (fun d3 v3 H4 C4 F4 e4 s4 k4 t4 r4 => ?_) (fun y cl dx H' C' e4 s4 k4 t4 => x y cl dx H' C' (by rw [e4]; rfl) s4 (((k1.trans k2).trans k3).trans k4) (((t1.trans t2).trans t3).trans t4)) (fun e4 => nb (by rw [e4]; rfl))
            dsimp only at q x nb
            rw [e4, O.bind_ok] at q x nb
            cases eg' : g' d2 d3 with
            | none => rw [eg'] at nb; exact absurd rfl nb
            | some d' => exact hr' C4 H4 _ v2 v3 d2 d3 d' [] F4 s4.w (r2c.c hcl (k3.trans k4)) r4 eg' Q fun v H5 C5 w5 k5 t5 => q d' v H5 C5 (by rw [eg']; rfl) ⟨s4.e, w5⟩ ((((k1.trans k2).trans k3).trans k4).trans k5) ((((t1.trans t2).trans t3).trans t4).trans t5)
          | false =>
            rw [if_neg Bool.false_ne_true]
            exact q _ _ H3 C3 rfl ⟨s2.e, w3⟩ ((k1.trans k2).trans k3) ((t1.trans t2).trans t3)
        | _ => exact absurd rfl nb)
    (fun y cl dx H' C' e2 s2 k2 t2 => x y cl dx H' C' (by unfold fChain; rw [e1, O.bind_ok, e2]; rfl) s2 (k1.trans k2) (t1.trans t2))
    (fun e2 => nb (by unfold fChain; rw [e1, O.bind_ok, e2]; rfl)))
  (fun y cl dx H' C' e1 => x y cl dx H' C' (by unfold fChain; rw [e1]; rfl)) (fun e1 => nb (by unfold fChain; rw [e1]; rfl))
/-- a built-in or a method, of views: its answer a new entry -/
def CallG (c : Cn) (r : List V → Hp → VK → Prop) (g : List D → Option D) : Prop := ∀ (C H : Hp) (L : List Ent) (vs : List V) (ds : List D) (d : D) (F : List Addr), Wld c C H L → RpFs c.W C H vs ds F → g ds = some d →
  ∀ Q : VK, (∀ v H' C', Wld c C' H' ((v, d) :: L) → Same C C' → Same H H' → Q v H') → r vs H Q
theorem rp_cb {r : List V → Hp → VK → Prop} {g : List D → Option D} (hr : CallG c r g) (ha : RAV c W tas fas) : RP c W (tCB r tas) (fApp g fas) := fun σ H C env T s Q q x nb =>
  ha σ H C env T s _ (fun ds vs H1 C1 F1 e1 s1 k1 t1 r1 => by
    have ee : fApp g fas env = O.of (g ds) := by unfold fApp; rw [e1]; rfl
    cases eg : g ds with
    | none => exact absurd (by rw [ee, eg]; rfl) nb
    | some d => exact hr C1 H1 _ vs ds d F1 s1.w r1 eg Q fun v H2 C2 w2 k2 t2 => q d v H2 C2 (by rw [ee, eg]; rfl) ⟨s1.e, w2⟩ (k1.trans k2) (t1.trans t2))
  (fun y cl dx H' C' e1 => x y cl dx H' C' (by unfold fApp; rw [e1]; rfl)) (fun e1 => nb (by unfold fApp; rw [e1]; rfl))
end
end
end CV
namespace CV
noncomputable section
open PySem L2
/-! ### lists and tuples, viewed -/
def seqOf : D → Option (List D)
  | .tup ds => some ds
  | .lst _ ds => some ds
  | .ro ds => some ds
  | _ => none
def lstOf : D → Option (List D)
  | .lst _ ds => some ds
  | .ro ds => some ds
  | _ => none
@[simp] theorem seqOf_tup (ds) : seqOf (.tup ds) = some ds := rfl
@[simp] theorem seqOf_lst (o ds) : seqOf (.lst o ds) = some ds := rfl
@[simp] theorem seqOf_ro (ds) : seqOf (.ro ds) = some ds := rfl
@[simp] theorem lstOf_lst (o ds) : lstOf (.lst o ds) = some ds := rfl
@[simp] theorem lstOf_ro (ds) : lstOf (.ro ds) = some ds := rfl
section
variable {W : Wp} {C H : Hp} {v : V} {d : D} {ds : List D} {F : List Addr}
theorem RpF.sq (r : RpF W C H v d F) (s : Same C H) (h : seqOf d = some ds) : ∃ a xs G, v = .ref a ∧ (SqL W.K H a xs ∨ SqT W.K H a xs) ∧ RpFs W C H xs ds G := by
  cases r with
  | tup e a => cases h; exact ⟨_, _, _, rfl, .inr (SqT.of (s _ _ e)), a⟩
  | lst e a => cases h; exact ⟨_, _, _, rfl, .inl (SqL.of (s _ _ e)), a⟩
  | ro e a => cases h; exact ⟨_, _, _, rfl, .inl (s.seq e), a⟩
  | own e a => cases h; exact ⟨_, _, _, rfl, .inl (SqL.of e), a⟩
  | _ => cases h
theorem RpF.ls (r : RpF W C H v d F) (s : Same C H) (h : lstOf d = some ds) : ∃ a xs G, v = .ref a ∧ SqL W.K H a xs ∧ RpFs W C H xs ds G := by
  cases r with
  | lst e a => cases h; exact ⟨_, _, _, rfl, SqL.of (s _ _ e), a⟩
  | ro e a => cases h; exact ⟨_, _, _, rfl, s.seq e, a⟩
  | own e a => cases h; exact ⟨_, _, _, rfl, SqL.of e, a⟩
  | _ => cases h
/-- a list that stands by itself -/
theorem RpF.tr {o : Bool} (r : RpF W C H v (.lst o ds) F) (s : Same C H) : ∃ a xs G, v = .ref a ∧ H a = some (.lst xs) ∧ RpFs W C H xs ds G := by
  cases r with
  | lst e a => exact ⟨_, _, _, rfl, s _ _ e, a⟩
  | own e a => exact ⟨_, _, _, rfl, e, a⟩
theorem RpFs.atI {vs : List V} {i : Int} {d : D} (r : RpFs W C H vs ds F) (h : L2.atI ds i = some d) : ∃ v G, L2.atI vs i = some v ∧ RpF W C H v d G := by
  unfold L2.atI at h ⊢
  rw [r.length]
  cases e : ixN ds.length i with
  | none => rw [e] at h; cases h
  | some j =>
    rw [e] at h
    obtain ⟨v, G, h1, h2, _⟩ := r.get h
    exact ⟨v, G, h1, h2⟩
theorem rps_strs : ∀ {vs : List V} {ls : List (List Nat)} {F : List Addr}, RpFs W C H vs (ls.map D.str) F → vs = ls.map fun l => V.str (S l)
  | _, [], _, h => by cases h; rfl
  | _, l :: ls, _, h => by
    cases h with
    | cons h1 h2 =>
      cases h1
      rw [List.map_cons, ← rps_strs h2]
theorem rps_bls : ∀ {vs : List V} {ls : List Bool} {F : List Addr}, RpFs W C H vs (ls.map D.bl) F → vs = ls.map V.bl
  | _, [], _, h => by cases h; rfl
  | _, l :: ls, _, h => by
    cases h with
    | cons h1 h2 =>
      cases h1
      rw [List.map_cons, ← rps_bls h2]
theorem rps_ofInts (ls : List Int) : RpFs W C H (ls.map V.int) (ls.map D.int) [] := by
  induction ls with
  | nil => exact .nil
  | cons l ls ih => exact RpFs.cons (F := []) (G := []) (.int l) ih
end
/-- all texts, all ints, all bools -/
def strsOf : List D → Option (List (List Nat))
  | [] => some []
  | .str l :: r => (strsOf r).map (l :: ·)
  | _ => none
def intsOf : List D → Option (List Int)
  | [] => some []
  | .int l :: r => (intsOf r).map (l :: ·)
  | _ => none
def blsOf : List D → Option (List Bool)
  | [] => some []
  | .bl l :: r => (blsOf r).map (l :: ·)
  | _ => none
theorem strsOf_eq : ∀ {ds : List D} {ls : List (List Nat)}, strsOf ds = some ls → ds = ls.map D.str
  | [], _, h => by cases h; rfl
  | d :: ds, ls, h => by
    cases d <;> first | (cases h; done) | skip
    rename_i l
    unfold strsOf at h
    obtain ⟨m, h1, h2⟩ := Option.map_eq_some_iff.mp h
    rw [← h2, List.map_cons, strsOf_eq h1]
theorem blsOf_eq : ∀ {ds : List D} {ls : List Bool}, blsOf ds = some ls → ds = ls.map D.bl
  | [], _, h => by cases h; rfl
  | d :: ds, ls, h => by
    cases d <;> first | (cases h; done) | skip
    rename_i l
    unfold blsOf at h
    obtain ⟨m, h1, h2⟩ := Option.map_eq_some_iff.mp h
    rw [← h2, List.map_cons, blsOf_eq h1]
@[simp] theorem strsOf_map (ls : List (List Nat)) : strsOf (ls.map D.str) = some ls := by
  induction ls with
  | nil => rfl
  | cons l ls ih => simp [strsOf, ih]
@[simp] theorem intsOf_map (ls : List Int) : intsOf (ls.map D.int) = some ls := by
  induction ls with
  | nil => rfl
  | cons l ls ih => simp [intsOf, ih]
@[simp] theorem blsOf_map (ls : List Bool) : blsOf (ls.map D.bl) = some ls := by
  induction ls with
  | nil => rfl
  | cons l ls ih => simp [blsOf, ih]
/-! ### == -/
mutual
def toP : D → PyData
  | .non => .none
  | .bl b => .bool b
  | .int i => .int i
  | .str l => .str (S l)
  | .tup ds => .tuple (toPs ds)
  | .lst _ ds => .list (toPs ds)
  | .ro ds => .list (toPs ds)
  | .dct _ _ _ _ => .none
  | .mix _ _ _ => .none
  | .ins _ _ _ _ => .none
  | .xc _ _ _ => .none
def toPs : List D → List PyData
  | [] => []
  | d :: ds => toP d :: toPs ds
end
mutual
def plain : D → Bool
  | .tup ds => plains ds
  | .lst _ ds => plains ds
  | .ro ds => plains ds
  | .dct _ _ _ _ => false
  | .mix _ _ _ => false
  | .ins _ _ _ _ => false
  | .xc _ _ _ => false
  | _ => true
def plains : List D → Bool
  | [] => true
  | d :: ds => plain d && plains ds
end
mutual
theorem RpF.dp {W : Wp} {C H : Hp} (s : Same C H) : ∀ {v : V} {d : D} {F : List Addr}, plain d = true → RpF W C H v d F → Dp W.K H v (toP d)
  | _, _, _, _, .non => by simp only [toP]; exact .non
  | _, _, _, _, .bl b => by simp only [toP]; exact .bl b
  | _, _, _, _, .int i => by simp only [toP]; exact .int i
  | _, _, _, _, .str l => by simp only [toP]; exact .str _
  | _, _, _, h, .tup e a => by
    simp only [toP]
    exact .tup (SqT.of (s _ _ e)) (RpFs.dp s (by simpa [plain] using h) a)
  | _, _, _, h, .lst e a => by
    simp only [toP]
    exact .lst (SqL.of (s _ _ e)) (RpFs.dp s (by simpa [plain] using h) a)
  | _, _, _, h, .ro e a => by
    simp only [toP]
    exact .lst (s.seq e) (RpFs.dp s (by simpa [plain] using h) a)
  | _, _, _, h, .own e a => by
    simp only [toP]
    exact .lst (SqL.of e) (RpFs.dp s (by simpa [plain] using h) a)
  | _, _, _, h, .dic _ _ => by simp [plain] at h
  | _, _, _, h, .dio _ _ => by simp [plain] at h
  | _, _, _, h, .mic _ _ _ => by simp [plain] at h
  | _, _, _, h, .mio _ _ _ => by simp [plain] at h
  | _, _, _, h, .inc _ _ _ _ => by simp [plain] at h
  | _, _, _, h, .ino _ _ _ _ => by simp [plain] at h
  | _, _, _, h, .xc0 _ _ => by simp [plain] at h
  | _, _, _, h, .xc1 _ _ _ _ => by simp [plain] at h
theorem RpFs.dp {W : Wp} {C H : Hp} (s : Same C H) : ∀ {vs : List V} {ds : List D} {F : List Addr}, plains ds = true → RpFs W C H vs ds F → DpAll W.K H vs (toPs ds)
  | _, _, _, _, .nil => by simp only [toPs]; exact .nil
  | _, _, _, h, .cons r t => by
    simp only [toPs]
    have h' := h
    simp only [plains, Bool.and_eq_true] at h'
    exact .cons (RpF.dp s h'.1 r) (RpFs.dp s h'.2 t)
end
def shO (d : D) : Bool := plain d && SeqAt.shaped (toP d)
def deq (d e : D) : Bool := PyData.eqv (toP d) (toP e)
def deqs (ds es : List D) : Bool := PyData.eqvAll (toPs ds) (toPs es)
def gEq (d e : D) : Option D := if (shO d && shO e) = true then some (.bl (deq d e)) else none
def gNe (d e : D) : Option D := if (shO d && shO e) = true then some (.bl (!deq d e)) else none
/-! ### operations -/
def gI (f : Int → Int → Int) : D → D → Option D
  | .int i, .int j => some (.int (f i j))
  | _, _ => none
def gB (f : Int → Int → Bool) : D → D → Option D
  | .int i, .int j => some (.bl (f i j))
  | _, _ => none
def gAdd : D → D → Option D
  | .int i, .int j => some (.int (i + j))
  | .str l, .str m => @ite _ (l.length + m.length ≤ 16777216) (Classical.propDecidable _) (some (.str (l ++ m))) none
  | .lst _ ds, .lst _ es => @ite _ ((clos ds && clos es) = true ∧ ds.length + es.length ≤ 16777216) (Classical.propDecidable _) (some (.lst true (ds ++ es))) none
  | .tup ds, .tup es => @ite _ ((clos ds && clos es) = true ∧ ds.length + es.length ≤ 16777216) (Classical.propDecidable _) (some (.tup (ds ++ es))) none
  | _, _ => none
def gMul : D → D → Option D
  | .int i, .int j => @ite _ (((-18446744073709551616 < i ∧ i < 18446744073709551616) ∨ (-18446744073709551616 < j ∧ j < 18446744073709551616))) (Classical.propDecidable _) (some (.int (i * j))) none
  | .lst _ ds, .int k => @ite _ (clos ds = true ∧ -9223372036854775808 ≤ k ∧ k < 9223372036854775808 ∧ ds.length * k.toNat ≤ 16777216) (Classical.propDecidable _) (some (.lst true ((List.replicate k.toNat ds).flatten))) none
  | _, _ => none
def gDiv : D → D → Option D
  | .int i, .int j => @ite _ (0 < j ∧ j < 1073741824) (Classical.propDecidable _) (some (.int (i / j))) none
  | _, _ => none
def gMod : D → D → Option D
  | .int i, .int j => if 0 < j then some (.int (i % j)) else none
  | _, _ => none
def gPow : D → D → Option D
  | .int i, .int j => @ite _ (0 ≤ j ∧ j ≤ 1000000 ∧ i.natAbs < 18446744073709551616) (Classical.propDecidable _) (some (.int (i ^ j.toNat))) none
  | _, _ => none
def gIn : D → D → Option D
  | .str [a], .str l => some (.bl (decide (a ∈ l)))
  | d, .lst _ es => if (shO d && shO (.lst false es)) = true then some (.bl (es.any fun e => deq e d)) else none
  | _, _ => none
def gNotIn (d e : D) : Option D := match gIn d e with
  | some (.bl b) => some (.bl (!b))
  | _ => none
def isNon : D → Bool
  | .non => true
  | _ => false
def gIs : D → D → Option D
  | d, .non => some (.bl (isNon d))
  | .bl a, .bl b => some (.bl (decide (a = b)))
  | _, _ => none
def gIsNot : D → D → Option D
  | d, .non => some (.bl (!isNon d))
  | .bl a, .bl b => some (.bl (!decide (a = b)))
  | _, _ => none
def gIx : D → D → Option D
  | .tup ds, .int i => L2.atI ds i
  | .lst _ ds, .int i => L2.atI ds i
  | .ro ds, .int i => L2.atI ds i
  | .str l, .int i => @ite _ (l.length ≤ 16777216) (Classical.propDecidable _) ((L2.atI l i).map (fun a => .str [a])) none
  | _, _ => none
/-! the model's rules for these -/
def wIn (K : Fg) : R2 := fun x y H Q => (∃ (c : Nat) (z : Str), x = .str ⟨#[c]⟩ ∧ y = .str z ∧ Q (.bl (decide (c ∈ z.cps.toList))) H) ∨ rInD K x y H Q
theorem op_wIn {X : Cx} (hu : X.A.units + 65 < cLine) : OpR X (compareOp .In) (wIn X.K) := op_in_sign.or (op_inD hu)
def wNotIn (K : Fg) : R2 := fun x y H Q => (∃ (c : Nat) (z : Str), x = .str ⟨#[c]⟩ ∧ y = .str z ∧ Q (.bl (!decide (c ∈ z.cps.toList))) H) ∨ rNotInD K x y H Q
theorem op_wNotIn {X : Cx} (hu : X.A.units + 65 < cLine) : OpR X (compareOp .NotIn) (wNotIn X.K) := op_notIn_sign.or (op_notInD hu)
def wIs : R2 := fun x y H Q => (y = .non ∧ Q (.bl (decide (x = .non))) H) ∨ rIsB x y H Q
theorem op_wIs {X : Cx} : OpR X (compareOp .Is) wIs := op_isN.or op_isBl
def wAdd (K : Fg) : R2 := fun x y H Q => rI0 (fun i j => .int (i + j)) x y H Q ∨ ((∃ i j, x = .str i ∧ y = .str j ∧ i.length + j.length ≤ sizeLine ∧ Q (.str (i ++ j)) H) ∨ (rCat x y H Q ∨ rCatA K x y H Q))
theorem op_wAdd {X : Cx} : OpR X (binaryOp .Add) (wAdd X.K) := op_add.or (op_add_str.or (op_cat.or op_catA))
def uShl : R2 := rI CPow fun i j => .int (i * 2 ^ j.toNat)
theorem op_uShl {X : Cx} : OpR X (binaryOp .LShift) uShl := op_shl
def uXor : R2 := rI0 fun i j => .int (Builtin.bitXor i j)
theorem op_uXor {X : Cx} : OpR X (binaryOp .BitXor) uXor := op_xor
def gShl : D → D → Option D
  | .int i, .int j => @ite _ (0 ≤ j ∧ j ≤ 1000000 ∧ i.natAbs < 18446744073709551616) (Classical.propDecidable _) (some (.int (i * 2 ^ j.toNat))) none
  | _, _ => none
section
variable {c : Cn}
theorem og_flat {r : R2} {g : D → D → Option D} (h : ∀ (H : Hp) (x y : V) (d1 d2 d : D) (C : Hp) (F1 F2 : List Addr), Same C H → RpF c.W C H x d1 F1 → RpF c.W C H y d2 F2 → g d1 d2 = some d → ∀ Q : VK, (∀ v, (∀ C H, RpF c.W C H v d []) → Q v H) → r x y H Q) : OpG c r g :=
  fun C H L x y d1 d2 d F1 F2 w r1 r2 e Q q => h H x y d1 d2 d C F1 F2 w.sub r1 r2 e Q fun v rv => q v H C (w.push (rv C H)) (Same.refl _) (Same.refl _)
theorem og_gI {f : Int → Int → Int} : OpG c (rI0 fun i j => .int (f i j)) (gI f) := og_flat fun H x y d1 d2 d C F1 F2 s r1 r2 e Q q => by
  cases r1 <;> cases r2 <;> first | (cases e; done) | skip
  rename_i i j
  cases e
  exact ⟨i, j, rfl, rfl, q _ fun _ _ => .int _⟩
theorem og_gB {f : Int → Int → Bool} : OpG c (rI0 fun i j => .bl (f i j)) (gB f) := og_flat fun H x y d1 d2 d C F1 F2 s r1 r2 e Q q => by
  cases r1 <;> cases r2 <;> first | (cases e; done) | skip
  rename_i i j
  cases e
  exact ⟨i, j, rfl, rfl, q _ fun _ _ => .bl _⟩
theorem og_sub : OpG c uSub (gI fun i j => i - j) := og_gI
theorem og_xor : OpG c uXor (gI Builtin.bitXor) := og_gI
theorem og_lt : OpG c uLt (gB fun i j => decide (i < j)) := og_gB
theorem og_le : OpG c uLe (gB fun i j => decide (i ≤ j)) := og_gB
theorem og_ge : OpG c uGe (gB fun i j => decide (j ≤ i)) := og_gB
theorem og_div : OpG c uDiv gDiv := og_flat fun H x y d1 d2 d C F1 F2 s r1 r2 e Q q => by
  cases r1 <;> cases r2 <;> first | (cases e; done) | skip
  rename_i i j
  dsimp only [gDiv] at e
  by_cases h : 0 < j ∧ j < 1073741824
  · rw [if_pos h] at e; cases e
    exact ⟨i, j, rfl, rfl, h, q _ fun _ _ => .int _⟩
  · rw [if_neg h] at e; cases e
theorem og_mod : OpG c uMod gMod := og_flat fun H x y d1 d2 d C F1 F2 s r1 r2 e Q q => by
  cases r1 <;> cases r2 <;> first | (cases e; done) | skip
  rename_i i j
  dsimp only [gMod] at e
  by_cases h : 0 < j
  · rw [if_pos h] at e; cases e
    exact ⟨i, j, rfl, rfl, h, q _ fun _ _ => .int _⟩
  · rw [if_neg h] at e; cases e
theorem og_pow : OpG c uPow gPow := og_flat fun H x y d1 d2 d C F1 F2 s r1 r2 e Q q => by
  cases r1 <;> cases r2 <;> first | (cases e; done) | skip
  rename_i i j
  dsimp only [gPow] at e
  by_cases h : 0 ≤ j ∧ j ≤ 1000000 ∧ i.natAbs < 18446744073709551616
  · rw [if_pos h] at e; cases e
    exact ⟨i, j, rfl, rfl, h, q _ fun _ _ => .int _⟩
  · rw [if_neg h] at e; cases e
theorem og_shl : OpG c uShl gShl := og_flat fun H x y d1 d2 d C F1 F2 s r1 r2 e Q q => by
  cases r1 <;> cases r2 <;> first | (cases e; done) | skip
  rename_i i j
  dsimp only [gShl] at e
  by_cases h : 0 ≤ j ∧ j ≤ 1000000 ∧ i.natAbs < 18446744073709551616
  · rw [if_pos h] at e; cases e
    exact ⟨i, j, rfl, rfl, h, q _ fun _ _ => .int _⟩
  · rw [if_neg h] at e; cases e
theorem and_t {a b : Bool} (h : (a && b) = true) : a = true ∧ b = true := by simpa using h
theorem og_eq : OpG c (uEq c.K) gEq := og_flat fun H x y d1 d2 d C F1 F2 s r1 r2 e Q q => by
  unfold gEq at e
  by_cases h : (shO d1 && shO d2) = true
  · rw [if_pos h] at e; cases e
    have h1 := and_t (and_t h).1
    have h2 := and_t (and_t h).2
    exact ⟨toP d1, toP d2, r1.dp s h1.1, r2.dp s h2.1, h1.2, h2.2, q _ fun _ _ => .bl _⟩
  · rw [if_neg h] at e; cases e
theorem og_ne : OpG c (uNe c.K) gNe := og_flat fun H x y d1 d2 d C F1 F2 s r1 r2 e Q q => by
  unfold gNe at e
  by_cases h : (shO d1 && shO d2) = true
  · rw [if_pos h] at e; cases e
    have h1 := and_t (and_t h).1
    have h2 := and_t (and_t h).2
    exact ⟨toP d1, toP d2, r1.dp s h1.1, r2.dp s h2.1, h1.2, h2.2, q _ fun _ _ => .bl _⟩
  · rw [if_neg h] at e; cases e
theorem toPs_map (ds : List D) : toPs ds = ds.map toP := by
  induction ds with
  | nil => rfl
  | cons d ds ih => simp [toPs, ih]
theorem gIn_in {d1 d2 : D} {d : D} (e : gIn d1 d2 = some d) : (∃ a l, d1 = .str [a] ∧ d2 = .str l ∧ d = .bl (decide (a ∈ l))) ∨ ∃ o es, d2 = .lst o es ∧ shO d1 = true ∧ shO (.lst false es) = true ∧ d = .bl (es.any fun e => deq e d1) := by
  unfold gIn at e
  split at e
  · cases e; exact .inl ⟨_, _, rfl, rfl, rfl⟩
  · rename_i o es
    by_cases h : (shO d1 && shO (.lst false es)) = true
    · rw [if_pos h] at e; cases e
      exact .inr ⟨_, _, rfl, (and_t h).1, (and_t h).2, rfl⟩
    · rw [if_neg h] at e; cases e
  · cases e
theorem any_deq (es : List D) (d : D) : ((toPs es).any fun z => PyData.eqv z (toP d)) = es.any fun e => deq e d := by
  rw [toPs_map, List.any_map]; rfl
theorem og_in : OpG c (wIn c.K) gIn := og_flat fun H x y d1 d2 d C F1 F2 s r1 r2 e Q q => by
  rcases gIn_in e with ⟨a, l, rfl, rfl, rfl⟩ | ⟨o, es, rfl, h1, h2, rfl⟩
  · cases r1; cases r2
    exact .inl ⟨a, S l, rfl, rfl, q _ fun _ _ => .bl _⟩
  · have h1 := and_t h1
    have h2 := and_t h2
    refine .inr ⟨toP d1, toPs es, r1.dp s h1.1, ?_, h1.2, by simpa [toP] using h2.2, ?_⟩
    · have := r2.dp s (show plain (.lst o es) = true by simpa [plain] using h2.1)
      simpa [toP] using this
    · rw [any_deq]
      exact q _ fun _ _ => .bl _
theorem og_notin : OpG c (wNotIn c.K) gNotIn := og_flat fun H x y d1 d2 d C F1 F2 s r1 r2 e Q q => by
  unfold gNotIn at e
  cases h : gIn d1 d2 with
  | none => rw [h] at e; cases e
  | some z =>
    rw [h] at e
    rcases gIn_in h with ⟨a, l, rfl, rfl, rfl⟩ | ⟨o, es, rfl, h1, h2, rfl⟩
    · cases e
      cases r1; cases r2
      exact .inl ⟨a, S l, rfl, rfl, q _ fun _ _ => .bl _⟩
    · cases e
      have h1 := and_t h1
      have h2 := and_t h2
      refine .inr ⟨toP d1, toPs es, r1.dp s h1.1, ?_, h1.2, by simpa [toP] using h2.2, ?_⟩
      · have := r2.dp s (show plain (.lst o es) = true by simpa [plain] using h2.1)
        simpa [toP] using this
      · rw [any_deq]
        exact q _ fun _ _ => .bl _
theorem RpF.isNon {W : Wp} {C H : Hp} {v : V} {d : D} {F : List Addr} (r : RpF W C H v d F) : decide (v = .non) = CV.isNon d := by
  cases r <;> simp [CV.isNon]
theorem og_is : OpG c wIs gIs := og_flat fun H x y d1 d2 d C F1 F2 s r1 r2 e Q q => by
  unfold gIs at e
  split at e
  · cases e; cases r2
    exact .inl ⟨rfl, by rw [r1.isNon]; exact q _ fun _ _ => .bl _⟩
  · cases e; cases r1; cases r2
    exact .inr ⟨_, _, rfl, rfl, q _ fun _ _ => .bl _⟩
  · cases e
/-- a new list of closed things -/
theorem Wld.newLst {C H : Hp} {L : List Ent} {p : Addr} {xs : List V} {ds : List D} (w : Wld c C H L) (hp : H p = none) (r : RpFs c.W C H xs ds []) : Wld c C (upd H p (.lst xs)) ((.ref p, .lst true ds) :: L) :=
  w.mkOwn (X := []) hp fun G g => by
    cases g
    exact .own upd_same (r.mono (Same.refl _) fun a ha => by simp at ha)
theorem Wld.newTup {C H : Hp} {L : List Ent} {p : Addr} {xs : List V} {ds : List D} (w : Wld c C H L) (hp : H p = none) (r : RpFs c.W C H xs ds []) : Wld c (upd C p (.tup xs)) (upd H p (.tup xs)) ((.ref p, .tup ds) :: L) :=
  (w.laid hp).push (.tup upd_same (r.mono (same_upd (w.sub.free hp)) fun a ha => by simp at ha))
theorem og_add : OpG c (wAdd c.K) gAdd := fun C H L x y d1 d2 d F1 F2 w r1 r2 e Q q => by
  cases d1 <;> cases d2 <;> first | (cases e; done) | skip
  · cases r1; cases r2; cases e
    exact .inl ⟨_, _, rfl, rfl, q _ H C (w.push (.int _)) (Same.refl _) (Same.refl _)⟩
  · rename_i l m
    dsimp only [gAdd] at e
    by_cases h : l.length + m.length ≤ 16777216
    · rw [if_pos h] at e; cases e
      cases r1; cases r2
      refine .inr (.inl ⟨S l, S m, rfl, rfl, by rw [S_len, S_len]; exact h, ?_⟩)
      rw [S_app]
      exact q _ H C (w.push (.str _)) (Same.refl _) (Same.refl _)
    · rw [if_neg h] at e; cases e
  · rename_i ds es
    dsimp only [gAdd] at e
    by_cases h : (clos ds && clos es) = true ∧ ds.length + es.length ≤ 16777216
    · rw [if_pos h] at e; cases e
      have hc := and_t h.1
      cases r1 with
      | tup e1 a1 =>
      cases r2 with
      | tup e2 a2 =>
      rename_i a xs b ys
      have c1 := a1.c hc.1 (Same.refl C) (H' := H)
      have c2 := a2.c hc.2 (Same.refl C) (H' := H)
      have l1 := a1.length
      have l2 := a2.length
      refine .inr (.inr (.inr ⟨_, _, xs, ys, rfl, rfl, SqT.of (w.sub _ _ e1), SqT.of (w.sub _ _ e2), by rw [l1, l2]; exact h.2, fun hn => ?_, fun _ hn => ?_, fun _ _ p hp => ?_⟩))
      · subst hn
        cases c1
        exact q _ H C (w.push (.tup e2 c2)) (Same.refl _) (Same.refl _)
      · subst hn
        cases c2
        rw [List.append_nil] at q
        exact q _ H C (w.push (.tup e1 c1)) (Same.refl _) (Same.refl _)
      · exact q _ _ _ (w.newTup hp (c1.app c2)) (same_upd (w.sub.free hp)) (same_upd hp)
    · rw [if_neg h] at e; cases e
  · rename_i o1 ds o2 es
    dsimp only [gAdd] at e
    by_cases h : (clos ds && clos es) = true ∧ ds.length + es.length ≤ 16777216
    · rw [if_pos h] at e; cases e
      have hc := and_t h.1
      obtain ⟨a, xs, G1, rfl, h1, a1⟩ := r1.tr w.sub
      obtain ⟨b, ys, G2, rfl, h2, a2⟩ := r2.tr w.sub
      refine .inr (.inr (.inl ⟨a, b, xs, ys, rfl, rfl, h1, h2, by rw [a1.length, a2.length]; exact h.2, fun p hp => ?_⟩))
      exact q _ _ C (w.newLst hp ((a1.c hc.1 (Same.refl C) (H' := H)).app (a2.c hc.2 (Same.refl C)))) (Same.refl _) (same_upd hp)
    · rw [if_neg h] at e; cases e
theorem rps_rep {W : Wp} {C H : Hp} {xs : List V} {ds : List D} (r : RpFs W C H xs ds []) : ∀ k : Nat, RpFs W C H (List.replicate k xs).flatten (List.replicate k ds).flatten []
  | 0 => .nil
  | k + 1 => by
    rw [List.replicate_succ, List.replicate_succ, List.flatten_cons, List.flatten_cons]
    exact r.app (rps_rep r k)
theorem og_mul : OpG c uMul gMul := fun C H L x y d1 d2 d F1 F2 w r1 r2 e Q q => by
  cases d1 <;> cases d2 <;> first | (cases e; done) | skip
  · rename_i i j
    dsimp only [gMul] at e
    by_cases h : ((-18446744073709551616 < i ∧ i < 18446744073709551616) ∨ (-18446744073709551616 < j ∧ j < 18446744073709551616))
    · rw [if_pos h] at e; cases e
      cases r1; cases r2
      exact .inl ⟨i, j, rfl, rfl, h, q _ H C (w.push (.int _)) (Same.refl _) (Same.refl _)⟩
    · rw [if_neg h] at e; cases e
  · rename_i o ds k
    dsimp only [gMul] at e
    by_cases h : clos ds = true ∧ -9223372036854775808 ≤ k ∧ k < 9223372036854775808 ∧ ds.length * k.toNat ≤ 16777216
    · rw [if_pos h] at e; cases e
      obtain ⟨a, xs, G1, rfl, h1, a1⟩ := r1.tr w.sub
      cases r2
      refine .inr ⟨a, k, xs, rfl, rfl, h1, h.2.1, h.2.2.1, by rw [a1.length]; exact h.2.2.2, fun p hp => ?_⟩
      exact q _ _ C (w.newLst hp (rps_rep (a1.c h.1 (Same.refl C)) _)) (Same.refl _) (same_upd hp)
    · rw [if_neg h] at e; cases e
theorem ow_ix : OpW c (rIx c.K) gIx := fun C H x y d1 d2 d F1 F2 s r1 r2 e Q q => by
  cases d2 <;> (try (cases d1 <;> cases e; done))
  rename_i i
  cases r2
  have go : ∀ ds, seqOf d1 = some ds → L2.atI ds i = some d → rIx c.K x (.int i) H Q := fun ds h1 h2 => by
    obtain ⟨a, xs, G, rfl, hs, ra⟩ := r1.sq s h1
    obtain ⟨v, G2, hv, rv⟩ := ra.atI h2
    rcases hs with hs | hs
    · exact .inl ⟨a, xs, i, v, rfl, rfl, hs, hv, q v _ rv⟩
    · exact .inr (.inl ⟨a, xs, i, v, rfl, rfl, hs, hv, q v _ rv⟩)
  cases d1 <;> (try (cases e; done))
  · rename_i l
    dsimp only [gIx] at e
    by_cases h : l.length ≤ 16777216
    · rw [if_pos h] at e
      obtain ⟨a, h1, h2⟩ := Option.map_eq_some_iff.mp e
      cases h2
      cases r1
      exact .inr (.inr ⟨S l, i, a, rfl, rfl, by rw [S_len]; exact h, h1, q _ [] (.str [a])⟩)
    · rw [if_neg h] at e; cases e
  · exact go _ rfl e
  · exact go _ rfl e
  · exact go _ rfl e
end
end
end CV
namespace CV
noncomputable section
open PySem L2
/-! ### built-ins, methods, slices -/
def gLen : List D → Option D
  | [.str l] => @ite _ (l.length ≤ 16777216) (Classical.propDecidable _) (some (.int (l.length : Int))) none
  | [d] => (seqOf d).map fun ds => .int (ds.length : Int)
  | _ => none
def gAll : List D → Option D
  | [d] => (lstOf d).bind fun ds => (blsOf ds).map fun bs => .bl (bs.all id)
  | _ => none
def gList : List D → Option D
  | [d] => (seqOf d).bind fun ds => if clos ds = true then some (.lst true ds) else none
  | _ => none
def tyD : D → String
  | .non => "NoneType" | .bl _ => "bool" | .int _ => "int" | .str _ => "str" | .tup _ => "tuple" | .lst _ _ => "list" | .ro _ => "list" | .dct _ _ _ _ => "dict" | .mix _ _ _ => "" | .ins _ _ _ _ => "" | .xc _ _ _ => ""
def gIsi (n : String) : D → Option D
  | .ins _ _ _ _ => none
  | .mix _ _ _ => none
  | .xc _ _ _ => none
  | d => (L2.kitB (tyD d) n).map .bl
@[simp] theorem gIsi_non (n) : gIsi n .non = (L2.kitB "NoneType" n).map .bl := rfl
@[simp] theorem gIsi_bl (n b) : gIsi n (.bl b) = (L2.kitB "bool" n).map .bl := rfl
@[simp] theorem gIsi_int (n b) : gIsi n (.int b) = (L2.kitB "int" n).map .bl := rfl
@[simp] theorem gIsi_str (n b) : gIsi n (.str b) = (L2.kitB "str" n).map .bl := rfl
@[simp] theorem gIsi_tup (n b) : gIsi n (.tup b) = (L2.kitB "tuple" n).map .bl := rfl
@[simp] theorem gIsi_lst (n o b) : gIsi n (.lst o b) = (L2.kitB "list" n).map .bl := rfl
@[simp] theorem gIsi_dct (n o t ks b) : gIsi n (.dct o t ks b) = (L2.kitB "dict" n).map .bl := rfl
def gJoin : D → D → Option D
  | .str s, d => (seqOf d).bind fun ds => (strsOf ds).bind fun ls => @ite _ ((ls.map (·.length)).sum + ls.length * s.length ≤ 16777216) (Classical.propDecidable _) (some (.str (joinL s ls))) none
  | _, _ => none
def gSplit : D → D → Option D
  | .str s, .str t => @ite _ (t ≠ [] ∧ s.length + 2 ≤ 16777216) (Classical.propDecidable _) (some (.lst true ((Txt.split (S s) (S t)).map fun z => .str z.cps.toList))) none
  | _, _ => none
def gSl (d : D) (lo hi : Option Int) : Option D := match d with
  | .str l => @ite _ (l.length ≤ 16777216) (Classical.propDecidable _) (some (.str (cutL l lo hi))) none
  | .tup ds => if clos ds = true then some (.tup (cutL ds lo hi)) else none
  | .lst _ ds => if clos ds = true then some (.lst true (cutL ds lo hi)) else none
  | .ro ds => if clos ds = true then some (.lst true (cutL ds lo hi)) else none
  | _ => none
def wSl (K : Fg) : V → Option Int → Option Int → Hp → VK → Prop := fun x lo hi H Q => rSlS x lo hi H Q ∨ (rSlL K x lo hi H Q ∨ rSlA K x lo hi H Q)
theorem sl_wSl {X : Cx} : SlR X (wSl X.K) := SlR.or sl_str (SlR.or sl_list sl_tupA)
theorem RpFs.cut {W : Wp} {C H : Hp} {vs : List V} {ds : List D} (r : RpFs W C H vs ds []) (lo hi : Option Int) : RpFs W C H (cutL vs lo hi) (cutL ds lo hi) [] := by
  have hl := r.length
  have e : (cutL vs lo hi).length = (cutL ds lo hi).length := by
    unfold cutL
    simp [hl]
  refine RpFs.nils (fun i v h => ?_) e
  unfold cutL at h ⊢
  rw [List.getElem?_take] at h ⊢
  rw [hl] at h
  by_cases hi' : i < HT.sIx ds.length ds.length hi - HT.sIx ds.length 0 lo
  · rw [if_pos hi', List.getElem?_drop] at h ⊢
    obtain ⟨d, G, h1, h2, h3⟩ := r.getV h
    have : G = [] := by
      cases G with
      | nil => rfl
      | cons a G => exact absurd (h3 a (by simp)) (by simp)
    subst this
    exact ⟨d, h1, h2⟩
  · rw [if_neg hi'] at h; cases h
/-- a method of a text with one argument -/
def fM1 (g : D → D → Option D) (a b : FP) : FP := fun env => (a env).bind fun x => match x with
  | .str l => (b env).bind fun y => .of (g (.str l) y)
  | _ => .bad
def fM0 (g : D → Option D) (a : FP) : FP := fun env => (a env).bind fun x => .of (g x)
/-- a part of a slice -/
abbrev FO := Env → O (Option Int)
def foN : FO := fun _ => .ok none
def foS (a : FP) : FO := fun env => (a env).bind fun x => match x with
  | .int i => .ok (some i)
  | _ => .bad
def fSl (a : FP) (lo hi : FO) : FP := fun env => (a env).bind fun x => (lo env).bind fun l => (hi env).bind fun h => .of (gSl x l h)
def fIsi (n : String) (a : FP) : FP := fun env => (a env).bind fun x => .of (gIsi n x)
section
variable {c : Cn} {W : WX} {te ta tb : TE} {fe fa fb : FP} {tt tu : TT} {ft fu : FT} {tas : TA} {fas : FA}
theorem rps1 {W : Wp} {C H : Hp} {vs : List V} {d : D} {F : List Addr} (r : RpFs W C H vs [d] F) : ∃ v, vs = [v] ∧ RpF W C H v d F := by
  cases r with
  | cons h t =>
    cases t
    rw [List.append_nil]
    exact ⟨_, rfl, h⟩
theorem cg_flat {r : List V → Hp → VK → Prop} {g : List D → Option D} (h : ∀ (H C : Hp) (vs : List V) (ds : List D) (d : D) (F : List Addr), Same C H → RpFs c.W C H vs ds F → g ds = some d → ∀ Q : VK, (∀ v, (∀ C H, RpF c.W C H v d []) → Q v H) → r vs H Q) : CallG c r g :=
  fun C H L vs ds d F w r1 e Q q => h H C vs ds d F w.sub r1 e Q fun v rv => q v H C (w.push (rv C H)) (Same.refl _) (Same.refl _)
theorem cg_len : CallG c (uLen c.K) gLen := cg_flat fun H C vs ds d F s r e Q q => by
  unfold gLen at e
  split at e
  · rename_i l
    obtain ⟨v, rfl, rv⟩ := rps1 r
    by_cases h : l.length ≤ 16777216
    · rw [if_pos h] at e; cases e
      cases rv
      refine .inr ⟨S l, rfl, by rw [S_len]; exact h, ?_⟩
      rw [S_len]
      exact q _ fun _ _ => .int _
    · rw [if_neg h] at e; cases e
  · obtain ⟨v, rfl, rv⟩ := rps1 r
    obtain ⟨es, h1, h2⟩ := Option.map_eq_some_iff.mp e
    cases h2
    obtain ⟨a, xs, G, rfl, hs, ra⟩ := rv.sq s h1
    refine .inl ⟨a, xs, rfl, hs, ?_⟩
    rw [ra.length]
    exact q _ fun _ _ => .int _
  · cases e
theorem cg_all : CallG c (rAll c.K) gAll := cg_flat fun H C vs ds d F s r e Q q => by
  unfold gAll at e
  split at e
  · obtain ⟨v, rfl, rv⟩ := rps1 r
    obtain ⟨es, h1, h2⟩ := Option.bind_eq_some_iff.mp e
    obtain ⟨bs, h3, h4⟩ := Option.map_eq_some_iff.mp h2
    cases h4
    obtain ⟨a, xs, G, rfl, hs, ra⟩ := rv.ls s h1
    rw [blsOf_eq h3] at ra
    rw [rps_bls ra] at hs
    exact ⟨a, bs, rfl, hs, q _ fun _ _ => .bl _⟩
  · cases e
theorem rp_m1 {r : V → List V → Hp → VK → Prop} {g : D → D → Option D} (hr : OpG c (fun x y => r x [y]) g) (ha : RV c W ta fa) (hb : RV c W tb fb) : RP c W (tM1 r ta tb) (fM1 g fa fb) := fun σ H C env T s Q q x nb =>
  ha σ H C env T s _ (fun d1 v1 H1 C1 F1 e1 s1 k1 t1 r1 => by
    unfold fM1 at q x nb
    rw [e1, O.bind_ok] at q x nb
    cases d1 with
    | str l =>
      dsimp only at q x nb
      have r1' := r1
      cases r1' with
      | str =>
      refine ⟨⟨_, rfl⟩, hb σ H1 C1 env T s1 _ (fun d2 v2 H2 C2 F2 e2 s2 k2 t2 r2 => ?_) (fun y cl dx H' C' e2 s2 k2 t2 => x y cl dx H' C' (by rw [e2]; rfl) s2 (k1.trans k2) (t1.trans t2)) (fun e2 => nb (by rw [e2]; rfl))⟩
      rw [e2, O.bind_ok] at q x nb
      cases eg : g (.str l) d2 with
      | none => exact absurd (by rw [eg]; rfl) nb
      | some d => exact hr C2 H2 _ _ v2 _ d2 d _ F2 s2.w (r1.keep k2 t2) r2 eg Q fun v H3 C3 w3 k3 t3 => q d v H3 C3 (by rw [eg]; rfl) ⟨s2.e, w3⟩ ((k1.trans k2).trans k3) ((t1.trans t2).trans t3)
    | _ => exact absurd rfl nb)
  (fun y cl dx H' C' e1 => x y cl dx H' C' (by unfold fM1; rw [e1]; rfl)) (fun e1 => nb (by unfold fM1; rw [e1]; rfl))
theorem og_join : OpG c (fun x y => uJoin c.K x [y]) gJoin := og_flat fun H x y d1 d2 d C F1 F2 s r1 r2 e Q q => by
  cases d1 <;> (try (cases e; done))
  rename_i l
  dsimp only [gJoin] at e
  obtain ⟨es, h1, h2⟩ := Option.bind_eq_some_iff.mp e
  obtain ⟨ls, h3, h4⟩ := Option.bind_eq_some_iff.mp h2
  by_cases h : (ls.map (·.length)).sum + ls.length * l.length ≤ 16777216
  · rw [if_pos h] at h4; cases h4
    cases r1
    obtain ⟨a, xs, G, rfl, hs, ra⟩ := r2.sq s h1
    rw [strsOf_eq h3] at ra
    have e2 : xs = (ls.map S).map V.str := by rw [rps_strs ra, List.map_map]; rfl
    have e3 : ((ls.map S).map (·.length)) = ls.map (·.length) := by rw [List.map_map]; exact List.map_congr_left fun l _ => S_len l
    refine ⟨S l, a, ls.map S, rfl, rfl, by rw [← e2]; exact hs, by rw [e3, List.length_map, S_len]; exact h, ?_⟩
    rw [TL.join_eq, join_S]
    exact q _ fun _ _ => .str _
  · rw [if_neg h] at h4; cases h4
theorem rps_ofStr (ls : List Str) {W : Wp} {C H : Hp} : RpFs W C H (ls.map V.str) (ls.map fun z => .str z.cps.toList) [] := by
  induction ls with
  | nil => exact .nil
  | cons z ls ih =>
    have : RpF W C H (.str z) (.str z.cps.toList) [] := by
      have h := RpF.str (W := W) (C := C) (H := H) z.cps.toList
      rw [S_tl] at h; exact h
    exact RpFs.cons (F := []) (G := []) this ih
theorem og_split : OpG c (fun x y => uSplit x [y]) gSplit := fun C H L x y d1 d2 d F1 F2 w r1 r2 e Q q => by
  cases d1 <;> cases d2 <;> (try (cases e; done))
  rename_i l t
  dsimp only [gSplit] at e
  by_cases h : t ≠ [] ∧ l.length + 2 ≤ 16777216
  · rw [if_pos h] at e; cases e
    cases r1; cases r2
    refine ⟨S l, S t, rfl, rfl, ?_, by rw [S_len]; exact h.2, fun p hp => q _ _ C (w.newLst hp (rps_ofStr _)) (Same.refl _) (same_upd hp)⟩
    rw [S_len]
    cases t with
    | nil => exact absurd rfl h.1
    | cons a t => simp
  · rw [if_neg h] at e; cases e
def RO (c : Cn) (W : WX) (to : TO) (fo : FO) : Prop := ∀ (σ : L2.St) (H C : Hp) (env : Env) (T : List Ent), Stt c C σ H env T → ∀ Q : Option Int → Hp → Prop,
  (∀ o H' C', fo env = .ok o → Stt c C' σ H' env T → Same C C' → Same H H' → Q o H') →
  (∀ x cl dx H' C', fo env = .exc x → Stt c C' σ H' env T → Same C C' → Same H H' → XR c.W C' x cl dx → W cl dx σ H') →
  fo env ≠ .bad → to σ H Q
theorem ro_n : RO c W tNoPart foN := fun σ H C env T s Q q x nb => q none H C rfl s (Same.refl _) (Same.refl _)
theorem ro_s (ha : RV c W ta fa) : RO c W (tPart ta) (foS fa) := fun σ H C env T s Q q x nb =>
  ha σ H C env T s _ (fun d1 v1 H1 C1 F1 e1 s1 k1 t1 r1 => by
    unfold foS at q x nb
    rw [e1, O.bind_ok] at q x nb
    cases r1 with
    | int i => exact ⟨i, rfl, q _ H1 C1 rfl s1 k1 t1⟩
    | _ => exact absurd rfl nb)
  (fun y cl dx H' C' e1 => x y cl dx H' C' (by unfold foS; rw [e1]; rfl)) (fun e1 => nb (by unfold foS; rw [e1]; rfl))
theorem whole_cut {α : Type} {l : List α} {lo hi : Option Int} (h : HT.sIx l.length 0 lo = 0 ∧ HT.sIx l.length l.length hi = l.length) : cutL l lo hi = l := by
  unfold cutL
  rw [h.1, h.2]; simp
theorem sl_ok {C H : Hp} {L : List Ent} {v : V} {d d' : D} {F : List Addr} {lo hi : Option Int} (w : Wld c C H L) (r : RpF c.W C H v d F) (e : gSl d lo hi = some d') (Q : VK) (q : ∀ v H' C', Wld c C' H' ((v, d') :: L) → Same C C' → Same H H' → Q v H') : wSl c.K v lo hi H Q := by
  have go : ∀ ds a xs G, lstOf d = some ds → v = .ref a → SqL c.K H a xs → RpFs c.W C H xs ds G → clos ds = true → d' = .lst true (cutL ds lo hi) → wSl c.K v lo hi H Q := fun ds a xs G h1 ev hs ra hc ed => by
    subst ed
    exact .inr (.inl ⟨a, xs, ev, hs, fun p hp => q _ _ C (w.newLst hp ((ra.c hc (Same.refl C)).cut lo hi)) (Same.refl _) (same_upd hp)⟩)
  unfold gSl at e
  split at e
  · rename_i l
    by_cases h : l.length ≤ 16777216
    · rw [if_pos h] at e; cases e
      cases r
      refine .inl ⟨S l, rfl, by rw [S_len]; exact h, ?_⟩
      rw [cutS_S]
      exact q _ H C (w.push (.str _)) (Same.refl _) (Same.refl _)
    · rw [if_neg h] at e; cases e
  · rename_i ds
    by_cases h : clos ds = true
    · rw [if_pos h] at e; cases e
      cases r with
      | tup e1 ra =>
      rename_i a xs
      have rc := ra.c h (Same.refl C) (H' := H)
      refine .inr (.inr ⟨a, xs, rfl, SqT.of (w.sub _ _ e1), fun hw => ?_, fun _ p hp => ?_⟩)
      · rw [ra.length] at hw
        rw [whole_cut hw] at q
        exact q _ H C (w.push (.tup e1 rc)) (Same.refl _) (Same.refl _)
      · exact q _ _ _ (w.newTup hp (rc.cut lo hi)) (same_upd (w.sub.free hp)) (same_upd hp)
    · rw [if_neg h] at e; cases e
  · rename_i ds
    by_cases h : clos ds = true
    · rw [if_pos h] at e; cases e
      obtain ⟨a, xs, G, ev, hs, ra⟩ := r.ls w.sub rfl
      exact go _ a xs G rfl ev hs ra h rfl
    · rw [if_neg h] at e; cases e
  · rename_i ds
    by_cases h : clos ds = true
    · rw [if_pos h] at e; cases e
      obtain ⟨a, xs, G, ev, hs, ra⟩ := r.ls w.sub rfl
      exact go _ a xs G rfl ev hs ra h rfl
    · rw [if_neg h] at e; cases e
  · cases e
theorem rp_sl {tl th : TO} {fl fh : FO} (ha : RV c W ta fa) (hl : RO c W tl fl) (hh : RO c W th fh) : RP c W (tSl (wSl c.K) ta tl th) (fSl fa fl fh) := fun σ H C env T s Q q x nb =>
  ha σ H C env T s _ (fun d1 v1 H1 C1 F1 e1 s1 k1 t1 r1 => by
      unfold fSl at q x nb
      rw [e1, O.bind_ok] at q x nb
      refine hl σ H1 C1 env T s1 _ (fun lo H2 C2 e2 s2 k2 t2 => ?_) (fun y cl dx H' C' e2 s2 k2 t2 => x y cl dx H' C' (by rw [e2]; rfl) s2 (k1.trans k2) (t1.trans t2)) (fun e2 => nb (by rw [e2]; rfl))
      rw [e2, O.bind_ok] at q x nb
      refine hh σ H2 C2 env T s2 _ (fun hi H3 C3 e3 s3 k3 t3 => ?_) (fun y cl dx H' C' e3 s3 k3 t3 => x y cl dx H' C' (by rw [e3]; rfl) s3 ((k1.trans k2).trans k3) ((t1.trans t2).trans t3)) (fun e3 => nb (by rw [e3]; rfl))
      rw [e3, O.bind_ok] at q x nb
      cases eg : gSl d1 lo hi with
      | none => exact absurd (by rw [eg]; rfl) nb
      | some d => exact sl_ok s3.w ((r1.keep k2 t2).keep k3 t3) eg Q fun v H4 C4 w4 k4 t4 => q d v H4 C4 (by rw [eg]; rfl) ⟨s3.e, w4⟩ (((k1.trans k2).trans k3).trans k4) (((t1.trans t2).trans t3).trans t4))
  (fun y cl dx H' C' e1 => x y cl dx H' C' (by unfold fSl; rw [e1]; rfl)) (fun e1 => nb (by unfold fSl; rw [e1]; rfl))
theorem RpF.ty {W : Wp} {C H : Hp} {v : V} {d : D} {F : List Addr} {n : String} {z : D} (r : RpF W C H v d F) (s : Same C H) (e : gIsi n d = some z) : TyX W.K H v (.type (tyD d)) := by
  cases r with
  | non => exact .base .non
  | bl b => exact .base (.bl b)
  | int i => exact .base (.int i)
  | str l => exact .base (.str _)
  | tup e1 a => exact .base (.tup (s _ _ e1))
  | lst e1 a => exact .base (.lst (s _ _ e1))
  | own e1 a => exact .base (.lst e1)
  | ro e1 a =>
    rcases s.seq e1 with (s | ⟨o, s⟩) | ⟨o, its, n, s, hc, _⟩
    · exact .base (.lst s)
    · exact .base (.frz s)
    · exact .kList s hc
  | dic h a =>
    rcases h with ⟨_, kvs, e1, _⟩ | ⟨_, kvs, e1, _⟩
    · exact .base (.dK (s _ _ e1))
    · exact .base (.dT (s _ _ e1))
  | dio h a =>
    rcases h with ⟨_, kvs, e1, _⟩ | ⟨_, kvs, e1, _⟩
    · exact .base (.dK e1)
    · exact .base (.dT e1)
  | _ => cases e
theorem rp_isi {n : String} (ha : RV c W ta fa) : RP c W (tCB (uIsi c.K) (tCons ta (tCons (tC (.ty n)) tNil))) (fIsi n fa) := fun σ H C env T s Q q x nb =>
  ha σ H C env T s _ (fun d1 v1 H1 C1 F1 e1 s1 k1 t1 r1 => by
    have ee : fIsi n fa env = O.of (gIsi n d1) := by unfold fIsi; rw [e1]; rfl
    cases eg : gIsi n d1 with
    | none => exact absurd (by rw [ee, eg]; rfl) nb
    | some z =>
      have hk : ∃ b, L2.kitB (tyD d1) n = some b ∧ z = .bl b := by
        cases d1 <;> first | (cases eg; done) | (obtain ⟨b, h1, h2⟩ := Option.map_eq_some_iff.mp eg; exact ⟨b, h1, h2.symm⟩)
      obtain ⟨b, h1, rfl⟩ := hk
      exact .inl ⟨v1, .ty n, _, .type n, b, rfl, .ty n, r1.ty s1.w.sub eg, kit_ty h1, q _ _ H1 C1 (by rw [ee, eg]; rfl) (s1.push (.bl b)) k1 t1⟩)
  (fun y cl dx H' C' e1 => x y cl dx H' C' (by unfold fIsi; rw [e1]; rfl)) (fun e1 => nb (by unfold fIsi; rw [e1]; rfl))
end
end
end CV
namespace CV
noncomputable section
open PySem L2
/-! ### statements -/
inductive R where
  | bad | nx (e : Env) | ret (d : D) (e : Env) | brk (e : Env) | cnt (e : Env) | exc (x : Exc) (e : Env)
abbrev FS := Env → R
def R.seq : R → FS → R
  | .nx e, f => f e
  | r, _ => r
@[simp] theorem R.seq_nx (e : Env) (f : FS) : (R.nx e).seq f = f e := rfl
@[simp] theorem R.seq_ret (d : D) (e : Env) (f : FS) : (R.ret d e).seq f = .ret d e := rfl
@[simp] theorem R.seq_brk (e : Env) (f : FS) : (R.brk e).seq f = .brk e := rfl
@[simp] theorem R.seq_cnt (e : Env) (f : FS) : (R.cnt e).seq f = .cnt e := rfl
@[simp] theorem R.seq_exc (x : Exc) (e : Env) (f : FS) : (R.exc x e).seq f = .exc x e := rfl
@[simp] theorem R.seq_bad (f : FS) : R.bad.seq f = .bad := rfl
/-- from an expression's answer -/
def O.st {α : Type} (o : O α) (env : Env) (f : α → R) : R := match o with
  | .ok a => f a
  | .exc x => .exc x env
  | .bad => .bad
@[simp] theorem O.st_ok {α : Type} (a : α) (env : Env) (f : α → R) : (O.ok a).st env f = f a := rfl
@[simp] theorem O.st_exc {α : Type} (x : Exc) (env : Env) (f : α → R) : (O.exc x : O α).st env f = .exc x env := rfl
@[simp] theorem O.st_bad {α : Type} (env : Env) (f : α → R) : (O.bad : O α).st env f = .bad := rfl
def fSeq (a b : FS) : FS := fun env => (a env).seq b
def fNext : FS := fun env => .nx env
def fSet (i : Nat) (a : FP) : FS := fun env => (a env).st env fun d => .nx (env.set i (.own d))
mutual
def frz : D → D
  | .tup ds => .tup (frzs ds)
  | .lst _ ds => .lst false (frzs ds)
  | .ro ds => .ro ds
  | .dct _ t ks ds => .dct false t ks (frzs ds)
  | .mix _ ks ds => .mix false ks (frzs ds)
  | .ins _ n ns ds => .ins false n ns (frzs ds)
  | d => d
def frzs : List D → List D
  | [] => []
  | d :: ds => frz d :: frzs ds
end
def fSetZ (i : Nat) (a : FP) : FS := fun env => (a env).st env fun d => .nx (env.set i (.own (frz d)))
def fDrop (a : FP) : FS := fun env => (a env).st env fun _ => .nx env
def fRet (a : FP) : FS := fun env => (a env).st env fun d => .ret d env
/-- return of a name: what it holds goes out -/
def fRetV (i : Nat) : FS := fun env => match env[i]? with
  | some (.own d) => .ret d (env.set i .no)
  | _ => .bad
def fRetN : FS := fun env => .ret .non env
def fIfS (t : FT) (a b : FS) : FS := fun env => (t env).st env fun c => if c = true then a env else b env
def fBreak : FS := fun env => .brk env
def fCont : FS := fun env => .cnt env
/-! targets -/
abbrev FG := D → Env → Option Env
def fgName (i : Nat) : FG := fun d env => some (env.set i (.own d))
abbrev FGs := List D → Env → Option Env
def fgNil : FGs := fun ds env => match ds with
  | [] => some env
  | _ => none
def fgCons (g : FG) (gs : FGs) : FGs := fun ds env => match ds with
  | d :: ds => (g d env).bind fun e => gs ds e
  | [] => none
def fgTup (n : Nat) (gs : FGs) : FG := fun d env => match d with
  | .tup ds => if ds.length = n then gs ds env else none
  | _ => none
def fAsg (g : FG) (a : FP) : FS := fun env => (a env).st env fun d => match g d env with
  | some e => .nx e
  | none => .bad
section
variable (c : Cn) (W : WX)
def RS (ts : TS) (fs : FS) : Prop := ∀ (σ : L2.St) (H C : Hp) (env : Env) (T : List Ent) (dn : Ends), Stt c C σ H env T →
  (∀ e σ' H' C', fs env = .nx e → Stt c C' σ' H' e T → Same C C' → dn.nx σ' H') →
  (∀ d e v σ' H' C', fs env = .ret d e → Stt c C' σ' H' e ((v, d) :: T) → Same C C' → dn.rt v H') →
  (∀ e σ' H' C', fs env = .brk e → Stt c C' σ' H' e T → Same C C' → dn.bk σ' H') →
  (∀ e σ' H' C', fs env = .cnt e → Stt c C' σ' H' e T → Same C C' → dn.ct σ' H') →
  (∀ x e cl dx σ' H' C', fs env = .exc x e → Stt c C' σ' H' e T → Same C C' → XR c.W C' x cl dx → W cl dx σ' H') →
  fs env ≠ .bad → ts dn σ H
def RG (g : TG) (fg : FG) : Prop := ∀ (σ : L2.St) (H C : Hp) (env : Env) (T : List Ent) (v : V) (d : D), Stt c C σ H env ((v, d) :: T) → ∀ Q : L2.St → Hp → Prop,
  (∀ e σ', fg d env = some e → Stt c C σ' H e T → Q σ' H) → fg d env ≠ none → g v σ H Q
def RGs (g : TGs) (fg : FGs) : Prop := ∀ (σ : L2.St) (H C : Hp) (env : Env) (T : List Ent) (vs : List V) (ds : List D), vs.length = ds.length → Stt c C σ H env (vs.zip ds ++ T) → ∀ Q : L2.St → Hp → Prop,
  (∀ e σ', fg ds env = some e → Stt c C σ' H e T → Q σ' H) → fg ds env ≠ none → g vs σ H Q
end
section
variable {c : Cn} {W : WX} {te ta tb : TE} {fe fa fb : FP} {tt tu : TT} {ft fu : FT} {tas : TA} {fas : FA} {ts tz : TS} {fs fz : FS}
theorem rs_seq (h : RS c W ts fs) (k : RS c W tz fz) : RS c W (tSeq ts tz) (fSeq fs fz) := fun σ H C env T dn s n r b t x nb =>
  h σ H C env T { dn with nx := tz dn } s
    (fun e σ' H' C' e1 s1 k1 => k σ' H' C' e T dn s1
      (fun e2 σ2 H2 C2 h2 s2 k2 => n e2 σ2 H2 C2 (by unfold fSeq; rw [e1]; exact h2) s2 (k1.trans k2))
      (fun d e2 v σ2 H2 C2 h2 s2 k2 => r d e2 v σ2 H2 C2 (by unfold fSeq; rw [e1]; exact h2) s2 (k1.trans k2))
      (fun e2 σ2 H2 C2 h2 s2 k2 => b e2 σ2 H2 C2 (by unfold fSeq; rw [e1]; exact h2) s2 (k1.trans k2))
      (fun e2 σ2 H2 C2 h2 s2 k2 => t e2 σ2 H2 C2 (by unfold fSeq; rw [e1]; exact h2) s2 (k1.trans k2))
      (fun y e2 cl dx σ2 H2 C2 h2 s2 k2 => x y e2 cl dx σ2 H2 C2 (by unfold fSeq; rw [e1]; exact h2) s2 (k1.trans k2))
      (fun h2 => nb (by unfold fSeq; rw [e1]; exact h2)))
    (fun d e v σ' H' C' e1 => r d e v σ' H' C' (by unfold fSeq; rw [e1]; rfl)) (fun e σ' H' C' e1 => b e σ' H' C' (by unfold fSeq; rw [e1]; rfl)) (fun e σ' H' C' e1 => t e σ' H' C' (by unfold fSeq; rw [e1]; rfl))
    (fun y e cl dx σ' H' C' e1 => x y e cl dx σ' H' C' (by unfold fSeq; rw [e1]; rfl)) (fun e1 => nb (by unfold fSeq; rw [e1]; rfl))
theorem rs_next : RS c W tNext fNext := fun σ H C env T dn s n r b t x nb => n env σ H C rfl s (Same.refl _)
/-- if, its ways joined behind it -/
theorem rs_if (ht : RT c W tt ft) (h1 : RS c W ts fs) (h2 : RS c W tz fz) : RS c W (tIfS tt ts tz) (fIfS ft fs fz) := fun σ H C env T dn s n r b t x nb =>
  ht σ H C env T s _ (fun q H1 C1 e1 s1 k1 t1 => by
      unfold fIfS at n r b t x nb
      rw [e1, O.st_ok] at n r b t x nb
      cases q with
      | true =>
        rw [if_pos rfl] at n r b t x nb ⊢
        exact h1 σ H1 C1 env T dn s1 (fun e2 σ2 H2 C2 h2 s2 k2 => n e2 σ2 H2 C2 h2 s2 (k1.trans k2)) (fun d e2 v σ2 H2 C2 h2 s2 k2 => r d e2 v σ2 H2 C2 h2 s2 (k1.trans k2)) (fun e2 σ2 H2 C2 h2 s2 k2 => b e2 σ2 H2 C2 h2 s2 (k1.trans k2)) (fun e2 σ2 H2 C2 h2 s2 k2 => t e2 σ2 H2 C2 h2 s2 (k1.trans k2)) (fun y e2 cl dx σ2 H2 C2 h2 s2 k2 => x y e2 cl dx σ2 H2 C2 h2 s2 (k1.trans k2)) nb
      | false =>
        rw [if_neg Bool.false_ne_true] at n r b t x nb ⊢
        exact h2 σ H1 C1 env T dn s1 (fun e2 σ2 H2 C2 h2 s2 k2 => n e2 σ2 H2 C2 h2 s2 (k1.trans k2)) (fun d e2 v σ2 H2 C2 h2 s2 k2 => r d e2 v σ2 H2 C2 h2 s2 (k1.trans k2)) (fun e2 σ2 H2 C2 h2 s2 k2 => b e2 σ2 H2 C2 h2 s2 (k1.trans k2)) (fun e2 σ2 H2 C2 h2 s2 k2 => t e2 σ2 H2 C2 h2 s2 (k1.trans k2)) (fun y e2 cl dx σ2 H2 C2 h2 s2 k2 => x y e2 cl dx σ2 H2 C2 h2 s2 (k1.trans k2)) nb)
    (fun y cl dx H' C' e1 s1 k1 t1 => x y env cl dx σ H' C' (by unfold fIfS; rw [e1]; rfl) s1 k1) (fun e1 => nb (by unfold fIfS; rw [e1]; rfl))
theorem rs_drop (h : RV c W te fe) : RS c W (tDrop te) (fDrop fe) := fun σ H C env T dn s n r b t x nb =>
  h σ H C env T s _ (fun d v H1 C1 F e1 s1 k1 t1 r1 => n env σ H1 C1 (by unfold fDrop; rw [e1]; rfl) s1 k1)
    (fun y cl dx H' C' e1 s1 k1 t1 => x y env cl dx σ H' C' (by unfold fDrop; rw [e1]; rfl) s1 k1) (fun e1 => nb (by unfold fDrop; rw [e1]; rfl))
theorem rs_set {i : Nat} (h : RP c W te fe) : RS c W (tAsg te (gName i)) (fSet i fe) := fun σ H C env T dn s n r b t x nb =>
  h σ H C env T s _ (fun d v H1 C1 e1 s1 k1 t1 => n _ _ H1 C1 (by unfold fSet; rw [e1]; rfl) s1.set k1)
    (fun y cl dx H' C' e1 s1 k1 t1 => x y env cl dx σ H' C' (by unfold fSet; rw [e1]; rfl) s1 k1) (fun e1 => nb (by unfold fSet; rw [e1]; rfl))
theorem rs_ret (h : RP c W te fe) : RS c W (tRet te) (fRet fe) := fun σ H C env T dn s n r b t x nb =>
  h σ H C env T s _ (fun d v H1 C1 e1 s1 k1 t1 => r d env v σ H1 C1 (by unfold fRet; rw [e1]; rfl) s1 k1)
    (fun y cl dx H' C' e1 s1 k1 t1 => x y env cl dx σ H' C' (by unfold fRet; rw [e1]; rfl) s1 k1) (fun e1 => nb (by unfold fRet; rw [e1]; rfl))
theorem rs_retV {i : Nat} : RS c W (tRet (tVar i)) (fRetV i) := fun σ H C env T dn s n r b t x nb => by
  cases h : env[i]? with
  | none => exact absurd (by unfold fRetV; rw [h]) nb
  | some z =>
    cases z with
    | no => exact absurd (by unfold fRetV; rw [h]) nb
    | bor d => exact absurd (by unfold fRetV; rw [h]) nb
    | pin => exact absurd (by unfold fRetV; rw [h]) nb
    | io d => exact absurd (by unfold fRetV; rw [h]) nb
    | own d =>
      obtain ⟨v, hv, s1⟩ := s.move h
      exact ⟨v, hv, r d _ v σ H C (by unfold fRetV; rw [h]) s1 (Same.refl _)⟩
/-! targets -/
theorem rg_name {i : Nat} : RG c (gName i) (fgName i) := fun σ H C env T v d s Q q nb => q _ _ rfl s.set
theorem rgs_nil : RGs c gNil fgNil := fun σ H C env T vs ds hl s Q q nb => by
  cases ds with
  | cons d ds => exact absurd rfl nb
  | nil =>
    cases vs with
    | cons v vs => simp at hl
    | nil => exact ⟨rfl, q env σ rfl s⟩
theorem rgs_cons {g : TG} {gs : TGs} {fg : FG} {fgs : FGs} (h : RG c g fg) (hs : RGs c gs fgs) : RGs c (gCons g gs) (fgCons fg fgs) := fun σ H C env T vs ds hl s Q q nb => by
  cases ds with
  | nil => exact absurd rfl nb
  | cons d ds =>
    cases vs with
    | nil => simp at hl
    | cons v vs =>
      refine ⟨v, vs, rfl, h σ H C env (vs.zip ds ++ T) v d s _ (fun e σ' e1 s1 => hs σ' H C e T vs ds (by simpa using hl) s1 Q (fun e2 σ2 h2 s2 => q e2 σ2 (by show (fg d env).bind _ = _; rw [e1]; exact h2) s2) (fun h2 => nb (by show (fg d env).bind _ = _; rw [e1]; exact h2))) (fun e1 => nb (by show (fg d env).bind _ = _; rw [e1]; rfl))⟩
theorem Wld.untup {C H : Hp} {L : List Ent} {v : V} {ds : List D} (w : Wld c C H ((v, .tup ds) :: L)) : ∃ a xs, v = .ref a ∧ C a = some (.tup xs) ∧ xs.length = ds.length ∧ Wld c C H (xs.zip ds ++ L) := by
  obtain ⟨F, h1, h2, h3⟩ := w.own
  unfold RpE at h1
  cases h1 with
  | cons r1 r2 =>
    cases r1 with
    | tup e a =>
      rename_i F0 G ad xs
      have hl := a.length
      refine ⟨ad, xs, rfl, e, hl, w.same, w.sub, w.ext, w.new, w.old, _, ?_, h2, h3⟩
      have : RpE c.W C H (xs.zip ds) F0 := by
        unfold RpE
        rw [zip_fst hl, zip_snd hl]
        exact a
      exact RpE.app this r2
theorem rg_tup {n : Nat} {gs : TGs} {fgs : FGs} (h : RGs c gs fgs) : RG c (gTup c.K n gs) (fgTup n fgs) := fun σ H C env T v d s Q q nb => by
  cases d with
  | tup ds =>
    by_cases hn : ds.length = n
    · obtain ⟨a, xs, rfl, e, hl, w2⟩ := s.w.untup
      have e1 : fgTup n fgs (.tup ds) env = fgs ds env := by dsimp only [fgTup]; rw [if_pos hn]
      rw [e1] at q nb
      exact ⟨a, xs, rfl, SqT.of (s.w.sub _ _ e), hl.trans hn, h σ H C env T xs ds hl ⟨s.e, by rw [List.append_assoc]; exact w2⟩ Q q nb⟩
    · exact absurd (by dsimp only [fgTup]; rw [if_neg hn]) nb
  | _ => exact absurd rfl nb
theorem rs_asg {g : TG} {fg : FG} (h : RP c W te fe) (hg : RG c g fg) : RS c W (tAsg te g) (fAsg fg fe) := fun σ H C env T dn s n r b t x nb =>
  h σ H C env T s _ (fun d v H1 C1 e1 s1 k1 t1 => by
      unfold fAsg at n nb
      rw [e1, O.st_ok] at n nb
      exact hg σ H1 C1 env T v d s1 _ (fun e σ' e2 s2 => n e σ' H1 C1 (by rw [e2]) s2 k1) (fun e2 => nb (by rw [e2])))
    (fun y cl dx H' C' e1 s1 k1 t1 => x y env cl dx σ H' C' (by unfold fAsg; rw [e1]; rfl) s1 k1) (fun e1 => nb (by unfold fAsg; rw [e1]; rfl))
/-! what is owned is closed for good -/
mutual
theorem RpF.frz {W : Wp} {C C' H : Hp} (e : Same C C') : ∀ {v : V} {d : D} {F : List Addr}, (∀ a ∈ F, C' a = H a) → RpF W C H v d F → RpF W C' H v (CV.frz d) []
  | _, _, _, _, .non => by simp only [CV.frz]; exact .non
  | _, _, _, _, .bl b => by simp only [CV.frz]; exact .bl b
  | _, _, _, _, .int i => by simp only [CV.frz]; exact .int i
  | _, _, _, _, .str l => by simp only [CV.frz]; exact .str l
  | _, _, _, k, .tup s a => by simp only [CV.frz]; exact .tup (e _ _ s) (RpFs.frz e k a)
  | _, _, _, k, .lst s a => by simp only [CV.frz]; exact .lst (e _ _ s) (RpFs.frz e k a)
  | _, _, _, k, .ro s a => by simp only [CV.frz]; exact .ro (e.seq s) (RpFs.mono e (fun _ _ => rfl) a)
  | _, _, _, k, .own s a => by simp only [CV.frz]; exact .lst ((k _ (by simp)).trans s) (RpFs.frz e (fun b hb => k b (by simp [hb])) a)
  | _, _, _, k, .dic s a => by simp only [CV.frz]; exact .dic (s.mono (.inr fun o q => e _ _ q)) (RpFs.frz e k a)
  | _, _, _, k, .dio s a => by simp only [CV.frz]; exact .dic (s.mono (.inl (k _ (by simp)))) (RpFs.frz e (fun b hb => k b (by simp [hb])) a)
  | _, _, _, k, .mic s q a => by simp only [CV.frz]; exact .mic (e _ _ s) (q.mono fun b ys => e b _) (RpFs.frz e k a)
  | _, _, _, k, .mio s q a => by simp only [CV.frz]; exact .mic ((k _ (by simp)).trans s) (q.mono fun b ys => e b _) (RpFs.frz e (fun b hb => k b (by simp [hb])) a)
  | _, _, _, k, .inc n s t a => by simp only [CV.frz]; exact .inc n (e _ _ s) (e _ _ t) (RpFs.frz e k a)
  | _, _, _, k, .ino n s t a => by simp only [CV.frz]; exact .inc n ((k _ (by simp)).trans s) ((k _ (by simp)).trans t) (RpFs.frz e (fun b hb => k b (by simp [hb])) a)
  | _, _, _, k, .xc0 n s => by simp only [CV.frz]; exact .xc0 n (e _ _ s)
  | _, _, _, k, .xc1 n s t a => by simp only [CV.frz]; exact .xc1 n (e _ _ s) (e _ _ t) (RpFs.mono e (fun _ _ => rfl) a)
theorem RpFs.frz {W : Wp} {C C' H : Hp} (e : Same C C') : ∀ {vs : List V} {ds : List D} {F : List Addr}, (∀ a ∈ F, C' a = H a) → RpFs W C H vs ds F → RpFs W C' H vs (CV.frzs ds) []
  | _, _, _, _, .nil => by simp only [CV.frzs]; exact .nil
  | _, _, _, k, .cons h t => by
    simp only [CV.frzs]
    exact RpFs.cons (F := []) (G := []) (RpF.frz e (fun a ha => k a (List.mem_append_left _ ha)) h) (RpFs.frz e (fun a ha => k a (List.mem_append_right _ ha)) t)
end
theorem Wld.frz {C H : Hp} {L : List Ent} {v : V} {d : D} (w : Wld c C H ((v, d) :: L)) : ∃ C', Wld c C' H ((v, CV.frz d) :: L) ∧ Same C C' := by
  obtain ⟨F, h1, h2, h3⟩ := w.own
  unfold RpE at h1
  cases h1 with
  | @cons _ _ _ _ F0 G r1 r2 =>
    classical
    let C' : Hp := fun a => if a ∈ F0 then H a else C a
    have eC : Same C C' := fun a o e => by
      show (if a ∈ F0 then H a else C a) = some o
      by_cases q : a ∈ F0
      · rw [if_pos q]; exact w.sub a o e
      · rw [if_neg q]; exact e
    have eF : ∀ a ∈ F0, C' a = H a := fun a ha => if_pos ha
    have nd := List.nodup_append.mp h2
    refine ⟨C', ⟨w.same, fun a o e => ?_, w.ext.trans eC, fun a o e n => ?_, w.old, G, ?_, nd.2.1, fun a ha => ⟨?_, (h3 a (List.mem_append_right _ ha)).2⟩⟩, eC⟩
    · have e' : (if a ∈ F0 then H a else C a) = some o := e
      by_cases q : a ∈ F0
      · rw [if_pos q] at e'; exact e'
      · rw [if_neg q] at e'; exact w.sub a o e'
    · have e' : (if a ∈ F0 then H a else C a) = some o := e
      by_cases q : a ∈ F0
      · exact (h3 a (List.mem_append_left _ q)).2.elim (fun z => .inr (.inl z)) .inl
      · rw [if_neg q] at e'; exact w.new a o e' n
    · exact RpFs.cons (F := []) (RpF.frz eC eF r1) (RpFs.mono eC (fun _ _ => rfl) r2)
    · have q : a ∉ F0 := fun z => nd.2.2 a z a ha rfl
      show (if a ∈ F0 then H a else C a) = none
      rw [if_neg q]
      exact (h3 a (List.mem_append_right _ ha)).1
theorem rs_setZ {i : Nat} (h : RP c W te fe) : RS c W (tAsg te (gName i)) (fSetZ i fe) := fun σ H C env T dn s n r b t x nb =>
  h σ H C env T s _ (fun d v H1 C1 e1 s1 k1 t1 => by
      obtain ⟨C2, w2, k2⟩ := s1.w.frz
      exact n _ _ H1 C2 (by unfold fSetZ; rw [e1]; rfl) (Stt.set ⟨s1.e, w2⟩) (k1.trans k2))
    (fun y cl dx H' C' e1 s1 k1 t1 => x y env cl dx σ H' C' (by unfold fSetZ; rw [e1]; rfl) s1 k1) (fun e1 => nb (by unfold fSetZ; rw [e1]; rfl))
/-! ### lists that are changed -/
theorem set_self {α : Type} {l : List α} {i : Nat} {a : α} (h : l[i]? = some a) : l.set i a = l := by
  apply List.ext_getElem?
  intro j
  by_cases hj : i = j
  · subst hj
    rw [List.getElem?_set_self (List.getElem?_eq_some_iff.mp h).1, h]
  · rw [List.getElem?_set_ne hj]
theorem Stt.back {C H : Hp} {σ : L2.St} {env : Env} {T : List Ent} {i : Nat} {v : V} {d : D} (s : Stt c C σ H (env.set i .no) ((v, d) :: T)) (h : σ[i]? = some (some v)) : Stt c C σ H (env.set i (.own d)) T := by
  have q := s.set (i := i)
  rw [set_self h, List.set_set] at q
  exact q
/-- the slot's list gets other items: those of the entries ahead may go in -/
theorem Stt.mutL {C H : Hp} {σ : L2.St} {env : Env} {T X : List Ent} {i : Nat} {ds es : List D} {v : V} (s : Stt c C σ H env (X ++ T)) (h : env[i]? = some (.own (.lst true ds))) (hv : σ[i]? = some (some v))
    (f : List V → List V) (hr : ∀ xs F G, RpFs c.W C H xs ds F → RpE c.W C H X G → (F ++ G).Nodup → ∃ F', RpFs c.W C H (f xs) es F' ∧ F'.Nodup ∧ ∀ a ∈ F', a ∈ F ++ G) :
    ∃ p xs F, v = .ref p ∧ H p = some (.lst xs) ∧ RpFs c.W C H xs ds F ∧ Stt c C σ (upd H p (.lst (f xs))) (env.set i (.own (.lst true es))) T := by
  obtain ⟨v', hv', s1⟩ := s.move h
  have ev : v' = v := by rw [hv] at hv'; exact (Option.some.inj (Option.some.inj hv')).symm
  subst ev
  obtain ⟨F0, r0⟩ := s1.w.view (e := (v', .lst true ds)) (by simp)
  have r0' := r0
  cases r0' with
  | own e a =>
    rename_i p xs F
    refine ⟨p, xs, F, rfl, e, a, Stt.back (v := .ref p) ⟨s1.e, ?_⟩ hv⟩
    refine Wld.mut (X := X) (d := .lst true ds) (d' := .lst true es) (by simpa [List.append_assoc] using s1.w) fun F1 G r1 rX nd => ?_
    cases r1 with
    | own e' a' =>
      rename_i ys F2
      have : xs = ys := by
        rw [e] at e'
        have := Option.some.inj e'
        injection this
      subst this
      have nd' : (F2 ++ G).Nodup ∧ p ∉ F2 ++ G := by
        have := List.nodup_cons.mp (show (p :: (F2 ++ G)).Nodup from nd)
        exact ⟨this.2, this.1⟩
      obtain ⟨F', g1, g2, g3⟩ := hr xs F2 G a' rX nd'.1
      refine ⟨p :: F', .own upd_same (RpFs.mono (Same.refl _) (fun b hb => upd_ne fun z => nd'.2 (z ▸ g3 b hb)) g1), List.nodup_cons.mpr ⟨fun z => nd'.2 (g3 p z), g2⟩, by simp, fun b hb => ?_⟩
      rcases List.mem_cons.mp hb with q | q
      · rw [q]; simp
      · exact List.mem_cons_of_mem p (g3 b q)
def fAppend (i : Nat) (a : FP) : FS := fun env => match env[i]? with
  | some (.own (.lst true _)) => (a env).st env fun d => match env[i]? with
    | some (.own (.lst true ds)) => @ite _ (ds.length < 16777216) (Classical.propDecidable _) (.nx (env.set i (.own (.lst true (ds ++ [d]))))) .bad
    | _ => .bad
  | _ => .bad
theorem own_lst {env : Env} {i : Nat} {ds : List D} (h : env[i]? = some (.own (.lst true ds))) : env[i]? = some (.own (.lst true ds)) ∨ (env[i]? = some (.bor (.lst true ds)) ∨ env[i]? = some (.io (.lst true ds))) := .inl h
theorem rs_append {i : Nat} (h : RP c W te fe) : RS c W (tDrop (tBM c.K "list" rAppend (tVar i) (tCons te tNil))) (fAppend i fe) := fun σ H C env T dn s n r b t x nb => by
  have go : ∀ ds, env[i]? = some (.own (.lst true ds)) → tDrop (tBM c.K "list" rAppend (tVar i) (tCons te tNil)) dn σ H := fun ds hi => by
    unfold fAppend at n x nb
    rw [hi] at n x nb
    dsimp only at n x nb
    obtain ⟨v, F, hv, rv⟩ := s.get (own_lst hi)
    obtain ⟨p, xs, G, ep, hp, _⟩ := rv.tr s.w.sub
    refine ⟨v, hv, ?_, ?_⟩
    · subst ep; exact .inl ⟨rfl, _, SqL.of hp⟩
    refine h σ H C env T s _ (fun d w H1 C1 e1 s1 k1 t1 => ?_) (fun y cl dx H' C' e1 s1 k1 t1 => x y env cl dx σ H' C' (by rw [e1]; rfl) s1 k1) (fun e1 => nb (by rw [e1]; rfl))
    rw [e1, O.st_ok] at n nb
    by_cases hz : ds.length < 16777216
    · rw [if_pos hz] at n
      obtain ⟨p', xs', F', ep', hp', rx, s2⟩ := s1.mutL (X := [(w, d)]) (T := T) (es := ds ++ [d]) hi hv (fun xs => xs ++ [w]) fun xs F G a1 a2 nd => by
        unfold RpE at a2
        obtain ⟨u, eu, ru⟩ := rps1 a2
        have eu' : w = u := by simpa using eu
        subst eu'
        exact ⟨F ++ G, a1.snoc ru, nd, fun a ha => ha⟩
      exact ⟨p', xs', w, ep', rfl, hp', by rw [rx.length]; exact hz, n _ σ _ C1 rfl s2 k1⟩
    · exact absurd (by rw [if_neg hz]) nb
  cases hi : env[i]? with
  | none => exact absurd (by unfold fAppend; rw [hi]) nb
  | some z =>
    cases z with
    | own d =>
      cases d with
      | lst o ds =>
        cases o with
        | true => exact go ds hi
        | false => exact absurd (by unfold fAppend; rw [hi]) nb
      | _ => exact absurd (by unfold fAppend; rw [hi]) nb
    | _ => exact absurd (by unfold fAppend; rw [hi]) nb
/-- xs.clear(), xs.reverse() -/
def fMut0 (g : List D → List D) (i : Nat) : FS := fun env => match env[i]? with
  | some (.own (.lst true ds)) => .nx (env.set i (.own (.lst true (g ds))))
  | _ => .bad
end
end
end CV
namespace CV
noncomputable section
open PySem L2
/-! ### what is walked -/
section
variable (c : Cn) (W : WX)
/-- a view that lasts while the entries X are held -/
def RK (te : TE) (fe : FP) : Prop := ∀ (σ : L2.St) (H C : Hp) (env : Env) (T : List Ent), Stt c C σ H env T → ∀ Q : VK,
  (∀ d v H' C' X, fe env = .ok d → Stt c C' σ H' env (X ++ T) → Same C C' → Same H H' → (∀ C2 H2 L, Wld c C2 H2 (X ++ L) → ∃ F, RpF c.W C2 H2 v d F) → Q v H') →
  (∀ x cl dx H' C', fe env = .exc x → Stt c C' σ H' env T → Same C C' → Same H H' → XR c.W C' x cl dx → W cl dx σ H') →
  fe env ≠ .bad → te σ H Q
def RI (wi : TI) (fi : FA) : Prop := ∀ (σ : L2.St) (H C : Hp) (env : Env) (T : List Ent), Stt c C σ H env T → ∀ Q : It → Hp → Prop,
  (∀ ds J H' C' X, fi env = .ok ds → Stt c C' σ H' env (X ++ T) → Same C C' → Same H H' →
    (∀ (i : Nat) (H2 C2 : Hp) (L : List Ent), i ≤ ds.length → Wld c C2 H2 (X ++ L) →
      (∀ d, ds[i]? = some d → J.go i H2 ∧ ∀ x H3, J.yld i H2 x H3 → ∃ C3, Wld c C3 H3 ((x, d) :: (X ++ L)) ∧ Same C2 C3 ∧ Same H2 H3) ∧ (i = ds.length → J.stop i H2)) → Q J H') →
  (∀ x cl dx H' C', fi env = .exc x → Stt c C' σ H' env T → Same C C' → Same H H' → XR c.W C' x cl dx → W cl dx σ H') →
  fi env ≠ .bad → wi σ H Q
end
def fVarB (i : Nat) : FP := fun env => match env[i]? with
  | some (.own d) => if clo d = true then .ok d else .bad
  | some (.bor d) => .ok d
  | some (.io d) => if clo d = true then .ok d else .bad
  | _ => .bad
def signsOf (l : List Nat) : List D := l.map fun a => .str [a]
def itemsOf : D → Option (List D)
  | .str l => some (signsOf l)
  | d => (seqOf d).bind fun ds => if clos ds = true then some ds else none
def fiSq (a : FP) : FA := fun env => (a env).bind fun d => .of (itemsOf d)
def pairs (i : Nat) : List D → List D
  | [] => []
  | d :: ds => .tup [.int (i : Int), d] :: pairs (i + 1) ds
def fiEnum (a : FP) : FA := fun env => (a env).bind fun d => (O.of (itemsOf d)).bind fun ds => .ok (pairs 0 ds)
def fiRev (a : FP) : FA := fun env => (a env).bind fun d => (O.of ((seqOf d).bind fun ds => if clos ds = true then some ds else none)).bind fun ds => .ok ds.reverse
def fiRng1 (a : FP) : FA := fun env => (a env).bind fun x => match x with
  | .int n => @ite _ (-4611686018427387904 ≤ n ∧ n < 4611686018427387904) (Classical.propDecidable _) (.ok ((List.range n.toNat).map fun (i : Nat) => D.int (i : Int))) .bad
  | _ => .bad
def fiRng2 (a b : FP) : FA := fun env => (a env).bind fun x => (b env).bind fun y => match x, y with
  | .int m, .int n => @ite _ (-4611686018427387904 ≤ m ∧ m < 4611686018427387904 ∧ -4611686018427387904 ≤ n ∧ n < 4611686018427387904) (Classical.propDecidable _) (.ok ((List.range (n - m).toNat).map fun (i : Nat) => D.int (m + (i : Int)))) .bad
  | _, _ => .bad
section
variable {c : Cn} {W : WX} {te ta tb : TE} {fe fa fb : FP} {tt tu : TT} {ft fu : FT} {tas : TA} {fas : FA} {ts tz : TS} {fs fz : FS}
theorem RP.k (h : RP c W te fe) : RK c W te fe := fun σ H C env T s Q q x nb => h σ H C env T s Q (fun d v H' C' e s' s1 t1 => q d v H' C' [(v, d)] e s' s1 t1 fun C2 H2 L w => w.view (e := (v, d)) (by simp)) x nb
theorem rk_var {i : Nat} : RK c W (tVar i) (fVarB i) := fun σ H C env T s Q q x nb => by
  cases h : env[i]? with
  | none => exact absurd (by unfold fVarB; rw [h]) nb
  | some z =>
    cases z with
    | no => exact absurd (by unfold fVarB; rw [h]) nb
    | own d =>
      by_cases hc : clo d = true
      · obtain ⟨v, F, hv, r⟩ := s.get (.inl h)
        exact ⟨v, hv, q d v H C [(v, d)] (by unfold fVarB; rw [h]; exact if_pos hc) (s.push (r.c hc (Same.refl _))) (Same.refl _) (Same.refl _) fun C2 H2 L w => w.view (e := (v, d)) (by simp)⟩
      · exact absurd (by unfold fVarB; rw [h]; exact if_neg hc) nb
    | pin => exact absurd (by unfold fVarB; rw [h]) nb
    | io d =>
      by_cases hc : clo d = true
      · obtain ⟨v, F, hv, r⟩ := s.get (.inr (.inr h))
        exact ⟨v, hv, q d v H C [(v, d)] (by unfold fVarB; rw [h]; exact if_pos hc) (s.push (r.c hc (Same.refl _))) (Same.refl _) (Same.refl _) fun C2 H2 L w => w.view (e := (v, d)) (by simp)⟩
      · exact absurd (by unfold fVarB; rw [h]; exact if_neg hc) nb
    | bor d =>
      obtain ⟨v, F, hv, r, n⟩ := s.e.bor i d h
      exact ⟨v, hv, q d v H C [] (by unfold fVarB; rw [h]) s (Same.refl _) (Same.refl _) fun C2 H2 L w => ⟨F, w.bor r n⟩⟩
theorem clo_item {ds : List D} {i : Nat} {d : D} (h : clos ds = true) (e : ds[i]? = some d) : clo d = true := clos_get h e
theorem signs_get {l : List Nat} {i : Nat} {d : D} (h : (signsOf l)[i]? = some d) : ∃ a, l[i]? = some a ∧ d = .str [a] := by
  unfold signsOf at h
  rw [List.getElem?_map] at h
  obtain ⟨a, h1, h2⟩ := Option.map_eq_some_iff.mp h
  exact ⟨a, h1, h2.symm⟩
theorem ri_sq (h : RK c W te fe) : RI c W (iSq c.K te) (fiSq fe) := fun σ H C env T s Q q x nb =>
  h σ H C env T s _ (fun d v H1 C1 X e1 s1 k1 t1 hold => by
      unfold fiSq at q nb
      rw [e1, O.bind_ok] at q nb
      have str : ∀ l, d = .str l → (∃ a, v = .ref a ∧ (∃ xs, SqL c.K H1 a xs) ∧ Q (Itl c.K a) H1) ∨ ((∃ a, v = .ref a ∧ (∃ xs, SqT c.K H1 a xs) ∧ Q (Itt c.K a) H1) ∨ (∃ z, v = .str z ∧ Q (Its z) H1)) := fun l ed => by
        subst ed
        obtain ⟨F, r⟩ := hold C1 H1 (T ++ slotsE σ env) (by rw [← List.append_assoc]; exact s1.w)
        cases r
        refine .inr (.inr ⟨S l, rfl, q (signsOf l) _ H1 C1 X rfl s1 k1 t1 fun i H2 C2 L hi w => ⟨fun d e => ?_, fun e => ?_⟩⟩)
        · obtain ⟨a, ha, rfl⟩ := signs_get e
          refine ⟨by show i < (S l).cps.size; simpa [S] using (List.getElem?_eq_some_iff.mp ha).1, fun x H3 yl => ?_⟩
          obtain ⟨e1, b, hb, hx⟩ := yl
          subst e1 hx
          have : b = a := by
            have hb' : l[i]? = some b := by simpa [S] using hb
            rw [ha] at hb'; exact (Option.some.inj hb').symm
          subst this
          exact ⟨C2, w.push (.str [b]), Same.refl _, Same.refl _⟩
        · show (S l).cps.size ≤ i
          unfold signsOf at e
          simp [S, e]
      have seq : ∀ ds, seqOf d = some ds → clos ds = true → (∀ (_ : itemsOf d = some ds), (∃ a, v = .ref a ∧ (∃ xs, SqL c.K H1 a xs) ∧ Q (Itl c.K a) H1) ∨ ((∃ a, v = .ref a ∧ (∃ xs, SqT c.K H1 a xs) ∧ Q (Itt c.K a) H1) ∨ (∃ z, v = .str z ∧ Q (Its z) H1))) := fun ds hd hc hit => by
        obtain ⟨F, r⟩ := hold C1 H1 (T ++ slotsE σ env) (by rw [← List.append_assoc]; exact s1.w)
        obtain ⟨a, xs, G, ev, hs, ra⟩ := r.sq s1.w.sub hd
        have key : ∀ (H2 C2 : Hp) (L : List Ent), Wld c C2 H2 (X ++ L) → ∃ ys G, (SqL c.K H2 a ys ∨ SqT c.K H2 a ys) ∧ RpFs c.W C2 H2 ys ds G := fun H2 C2 L w => by
          obtain ⟨F2, r2⟩ := hold C2 H2 L w
          obtain ⟨b, ys, G2, ev2, hs2, ra2⟩ := r2.sq w.sub hd
          rw [ev] at ev2
          cases ev2
          exact ⟨ys, G2, hs2, ra2⟩
        have lt : (∀ H2 C2 L, Wld c C2 H2 (X ++ L) → ∃ ys G, SqL c.K H2 a ys ∧ RpFs c.W C2 H2 ys ds G) ∨ (∀ H2 C2 L, Wld c C2 H2 (X ++ L) → ∃ ys G, SqT c.K H2 a ys ∧ RpFs c.W C2 H2 ys ds G) := by
          cases hdd : lstOf d with
          | some es =>
            have : es = ds := by
              cases d <;> (try (cases hd; done)) <;> (try (cases hdd; done))
              · cases hd; cases hdd; rfl
              · cases hd; cases hdd; rfl
            subst this
            refine .inl fun H2 C2 L w => ?_
            obtain ⟨F2, r2⟩ := hold C2 H2 L w
            obtain ⟨b, ys, G2, ev2, hs2, ra2⟩ := r2.ls w.sub hdd
            rw [ev] at ev2
            cases ev2
            exact ⟨ys, G2, hs2, ra2⟩
          | none =>
            refine .inr fun H2 C2 L w => ?_
            cases d <;> (try (cases hd; done)) <;> (try (cases hdd; done))
            obtain ⟨F2, r2⟩ := hold C2 H2 L w
            cases hd
            subst ev
            cases r2 with
            | tup e2 a2 => exact ⟨_, _, SqT.of (w.sub _ _ e2), a2⟩
        rcases lt with lt | lt
        · obtain ⟨ys0, G0, hy0, _⟩ := lt H1 C1 (T ++ slotsE σ env) (by rw [← List.append_assoc]; exact s1.w)
          refine .inl ⟨a, ev, ⟨ys0, hy0⟩, q ds _ H1 C1 X (by rw [hit]; rfl) s1 k1 t1 fun i H2 C2 L hi w => ?_⟩
          obtain ⟨ys, G2, hy, ry⟩ := lt H2 C2 L w
          refine ⟨fun d e => ?_, fun e => ⟨ys, hy, by rw [ry.length, e]; exact Nat.le_refl _⟩⟩
          obtain ⟨u, G3, hu, ru, _⟩ := ry.get e
          refine ⟨⟨ys, u, hy, hu⟩, fun x H3 yl => ?_⟩
          obtain ⟨e1, e2⟩ := yl
          subst e1
          have : x = u := by
            have := e2 ys hy
            rw [hu] at this; exact (Option.some.inj this).symm
          subst this
          exact ⟨C2, w.push (ru.c (clo_item hc e) (Same.refl _)), Same.refl _, Same.refl _⟩
        · obtain ⟨ys0, G0, hy0, _⟩ := lt H1 C1 (T ++ slotsE σ env) (by rw [← List.append_assoc]; exact s1.w)
          refine .inr (.inl ⟨a, ev, ⟨ys0, hy0⟩, q ds _ H1 C1 X (by rw [hit]; rfl) s1 k1 t1 fun i H2 C2 L hi w => ?_⟩)
          obtain ⟨ys, G2, hy, ry⟩ := lt H2 C2 L w
          refine ⟨fun d e => ?_, fun e => ⟨ys, hy, by rw [ry.length, e]; exact Nat.le_refl _⟩⟩
          obtain ⟨u, G3, hu, ru, _⟩ := ry.get e
          refine ⟨⟨ys, u, hy, hu⟩, fun x H3 yl => ?_⟩
          obtain ⟨e1, e2⟩ := yl
          subst e1
          have : x = u := by
            have := e2 ys hy
            rw [hu] at this; exact (Option.some.inj this).symm
          subst this
          exact ⟨C2, w.push (ru.c (clo_item hc e) (Same.refl _)), Same.refl _, Same.refl _⟩
      cases hd : itemsOf d with
      | none => rw [hd] at nb; exact absurd rfl nb
      | some ds =>
        cases d with
        | str l => exact str l rfl
        | tup es =>
          have h' : (if clos es = true then some es else none) = some ds := hd
          by_cases hc : clos es = true
          · rw [if_pos hc] at h'; cases h'; exact seq _ rfl hc hd
          · rw [if_neg hc] at h'; cases h'
        | lst o es =>
          have h' : (if clos es = true then some es else none) = some ds := hd
          by_cases hc : clos es = true
          · rw [if_pos hc] at h'; cases h'; exact seq _ rfl hc hd
          · rw [if_neg hc] at h'; cases h'
        | ro es =>
          have h' : (if clos es = true then some es else none) = some ds := hd
          by_cases hc : clos es = true
          · rw [if_pos hc] at h'; cases h'; exact seq _ rfl hc hd
          · rw [if_neg hc] at h'; cases h'
        | _ => cases hd)
    (fun y cl dx H' C' e1 => x y cl dx H' C' (by unfold fiSq; rw [e1]; rfl)) (fun e1 => nb (by unfold fiSq; rw [e1]; rfl))
theorem rng_get {n : Nat} {f : Nat → D} {i : Nat} {d : D} (h : ((List.range n).map f)[i]? = some d) : i < n ∧ d = f i := by
  rw [List.getElem?_map] at h
  obtain ⟨a, h1, h2⟩ := Option.map_eq_some_iff.mp h
  by_cases hi : i < n
  · rw [List.getElem?_range hi] at h1
    cases h1
    exact ⟨hi, h2.symm⟩
  · rw [List.getElem?_eq_none (by simpa using hi)] at h1; cases h1
theorem ri_rng1 (ha : RV c W ta fa) : RI c W (iRng1 (tCons ta tNil)) (fiRng1 fa) := fun σ H C env T s Q q x nb =>
  ha σ H C env T s _ (fun d v H1 C1 F e1 s1 k1 t1 r1 => by
      unfold fiRng1 at q nb
      rw [e1, O.bind_ok] at q nb
      cases r1 with
      | int n =>
        dsimp only at q nb
        by_cases hn : -4611686018427387904 ≤ n ∧ n < 4611686018427387904
        · rw [if_pos hn] at q
          refine ⟨n, rfl, hn.1, hn.2, q _ _ H1 C1 [] rfl s1 k1 t1 fun i H2 C2 L hi w => ⟨fun d e => ?_, fun e => ?_⟩⟩
          · obtain ⟨h1, rfl⟩ := rng_get e
            refine ⟨h1, fun x H3 yl => ?_⟩
            obtain ⟨e1, hx⟩ := yl
            subst e1 hx
            exact ⟨C2, w.push (by rw [Int.zero_add]; exact .int _), Same.refl _, Same.refl _⟩
          · show n.toNat ≤ i
            rw [List.length_map, List.length_range] at e
            omega
        · exact absurd (by rw [if_neg hn]) nb
      | _ => exact absurd rfl nb)
    (fun y cl dx H' C' e1 => x y cl dx H' C' (by unfold fiRng1; rw [e1]; rfl)) (fun e1 => nb (by unfold fiRng1; rw [e1]; rfl))
/-! ### for -/
def loopF (fg : FG) (fb : FS) : List D → Env → R
  | [], env => .nx env
  | d :: ds, env => match fg d env with
    | none => .bad
    | some e => match fb e with
      | .nx e' => loopF fg fb ds e'
      | .cnt e' => loopF fg fb ds e'
      | .brk e' => .nx e'
      | r => r
theorem loopF_cons (fg : FG) (fb : FS) (d : D) (ds : List D) (env : Env) : loopF fg fb (d :: ds) env = match fg d env with
    | none => .bad
    | some e => match fb e with
      | .nx e' => loopF fg fb ds e'
      | .cnt e' => loopF fg fb ds e'
      | .brk e' => .nx e'
      | r => r := rfl
def fFor (fi : FA) (fg : FG) (fb : FS) : FS := fun env => (fi env).st env fun ds => loopF fg fb ds env
theorem rs_for {wi : TI} {fi : FA} {g : TG} {fg : FG} {tb : TS} {fb : FS} (hi : RI c W wi fi) (hg : RG c g fg) (hb : RS c W tb fb) : RS c W (tFor wi g tb) (fFor fi fg fb) := fun σ H C env T dn s n r b t x nb =>
  hi σ H C env T s _ (fun ds J H1 C1 X e1 s1 k1 t1 st => by
      unfold fFor at n r b t x nb
      rw [e1, O.st_ok] at n r b t x nb
      refine ⟨fun i m σ2 H2 => i ≤ ds.length ∧ m + i = ds.length ∧ ∃ C2 e2, Stt c C2 σ2 H2 e2 (X ++ T) ∧ Same C1 C2 ∧ loopF fg fb (ds.drop i) e2 = loopF fg fb ds env, ⟨ds.length, by omega, by omega, C1, env, s1, Same.refl _, by rw [List.drop_zero]⟩, ?_⟩
      rintro i m σ2 H2 ⟨hil, hm, C2, e2, s2, k2, eq2⟩
      have w2 := s2.w
      rw [List.append_assoc] at w2
      obtain ⟨st1, st2⟩ := st i H2 C2 _ hil w2
      by_cases hlt : i < ds.length
      · obtain ⟨go, yl⟩ := st1 ds[i] (List.getElem?_eq_getElem hlt)
        have hdrop : ds.drop i = ds[i] :: ds.drop (i + 1) := List.drop_eq_getElem_cons hlt
        rw [hdrop, loopF_cons] at eq2
        refine .inr ⟨go, fun σ' H' => ∃ C' e', Stt c C' σ' H' e' (X ++ T) ∧ Same C1 C' ∧ loopF fg fb (ds.drop (i + 1)) e' = loopF fg fb ds env, ?_, fun x3 H3 y3 => ?_⟩
        · rintro σ' H' ⟨C', e', s', k', q'⟩
          exact ⟨m - 1, by omega, by omega, by omega, C', e', s', k', q'⟩
        · obtain ⟨C3, w3, k3, t3⟩ := yl x3 H3 y3
          have s3 : Stt c C3 σ2 H3 e2 ((x3, ds[i]) :: (X ++ T)) := ⟨s2.e, by
            show Wld c C3 H3 ((x3, ds[i]) :: (X ++ T ++ slotsE σ2 e2))
            rw [List.append_assoc]; exact w3⟩
          have kk : Same C C3 := k1.trans (k2.trans k3)
          refine hg σ2 H3 C3 e2 (X ++ T) x3 ds[i] s3 _ (fun e4 σ4 h4 s4 => ?_) (fun h4 => nb (by rw [← eq2, h4]))
          rw [h4] at eq2
          dsimp only at eq2
          refine hb σ4 H3 C3 e4 (X ++ T) _ s4 (fun e5 σ5 H5 C5 h5 s5 k5 => ?_) (fun d5 e5 v5 σ5 H5 C5 h5 s5 k5 => ?_) (fun e5 σ5 H5 C5 h5 s5 k5 => ?_) (fun e5 σ5 H5 C5 h5 s5 k5 => ?_) (fun y5 e5 cl dx σ5 H5 C5 h5 s5 k5 xr => ?_) (fun h5 => nb (by rw [← eq2, h5]))
          · rw [h5] at eq2
            exact ⟨C5, e5, s5, k2.trans (k3.trans k5), eq2⟩
          · rw [h5] at eq2
            exact r d5 e5 v5 σ5 H5 C5 eq2.symm ⟨s5.e, s5.w.less (R := X) (by
              show ((v5, d5) :: (T ++ slotsE σ5 e5) ++ X).Perm ((v5, d5) :: (X ++ T ++ slotsE σ5 e5))
              rw [List.append_assoc X]
              exact (List.perm_append_comm (l₁ := T ++ slotsE σ5 e5) (l₂ := X)).cons _)⟩ (kk.trans k5)
          · rw [h5] at eq2
            exact n e5 σ5 H5 C5 eq2.symm ⟨s5.e, (show Wld c C5 H5 (X ++ (T ++ slotsE σ5 e5)) by rw [← List.append_assoc]; exact s5.w).dropL⟩ (kk.trans k5)
          · rw [h5] at eq2
            exact ⟨C5, e5, s5, k2.trans (k3.trans k5), eq2⟩
          · rw [h5] at eq2
            exact x y5 e5 cl dx σ5 H5 C5 eq2.symm ⟨s5.e, (show Wld c C5 H5 (X ++ (T ++ slotsE σ5 e5)) by rw [← List.append_assoc]; exact s5.w).dropL⟩ (kk.trans k5) xr
      · have e : i = ds.length := by omega
        subst e
        rw [List.drop_length] at eq2
        exact .inl ⟨st2 rfl, n e2 σ2 H2 C2 (by rw [← eq2]; rfl) ⟨s2.e, (show Wld c C2 H2 (X ++ (T ++ slotsE σ2 e2)) by rw [← List.append_assoc]; exact s2.w).dropL⟩ (k1.trans k2)⟩)
    (fun y cl dx H' C' e1 s1 k1 t1 => x y env cl dx σ H' C' (by unfold fFor; rw [e1]; rfl) s1 k1) (fun e1 => nb (by unfold fFor; rw [e1]; rfl))
/-! ### while -/
end
end
end CV
namespace CV
noncomputable section
open PySem L2
section
variable {c : Cn} {W : WX} {te ta tb : TE} {fe fa fb : FP} {tt tu : TT} {ft fu : FT} {tas : TA} {fas : FA} {ts tz : TS} {fs fz : FS}
theorem kept {C1 H1 : Hp} {L1 X : List Ent} {v : V} {d : D} {ds : List D} (hold : ∀ C2 H2 L, Wld c C2 H2 (X ++ L) → ∃ F, RpF c.W C2 H2 v d F) (w1 : Wld c C1 H1 (X ++ L1)) (hd : seqOf d = some ds) :
    ∃ a, v = .ref a ∧ ((∀ H2 C2 L, Wld c C2 H2 (X ++ L) → ∃ ys G, SqL c.K H2 a ys ∧ RpFs c.W C2 H2 ys ds G) ∨ (∀ H2 C2 L, Wld c C2 H2 (X ++ L) → ∃ ys G, SqT c.K H2 a ys ∧ RpFs c.W C2 H2 ys ds G)) := by
  obtain ⟨F, r⟩ := hold C1 H1 L1 w1
  obtain ⟨a, xs, G, ev, hs, ra⟩ := r.sq w1.sub hd
  refine ⟨a, ev, ?_⟩
  cases hdd : lstOf d with
  | some es =>
    have : es = ds := by
      cases d <;> (try (cases hd; done)) <;> (try (cases hdd; done))
      · cases hd; cases hdd; rfl
      · cases hd; cases hdd; rfl
    subst this
    refine .inl fun H2 C2 L w => ?_
    obtain ⟨F2, r2⟩ := hold C2 H2 L w
    obtain ⟨b, ys, G2, ev2, hs2, ra2⟩ := r2.ls w.sub hdd
    rw [ev] at ev2
    cases ev2
    exact ⟨ys, G2, hs2, ra2⟩
  | none =>
    refine .inr fun H2 C2 L w => ?_
    cases d <;> (try (cases hd; done)) <;> (try (cases hdd; done))
    obtain ⟨F2, r2⟩ := hold C2 H2 L w
    cases hd
    subst ev
    cases r2 with
    | tup e2 a2 => exact ⟨_, _, SqT.of (w.sub _ _ e2), a2⟩
theorem items_seq {d : D} {ds : List D} (h : itemsOf d = some ds) : (∃ l, d = .str l ∧ ds = signsOf l) ∨ (seqOf d = some ds ∧ clos ds = true) := by
  cases d with
  | str l => exact .inl ⟨l, rfl, (Option.some.inj h).symm⟩
  | tup es =>
    have h' : (if clos es = true then some es else none) = some ds := h
    by_cases hc : clos es = true
    · rw [if_pos hc] at h'; cases h'; exact .inr ⟨rfl, hc⟩
    · rw [if_neg hc] at h'; cases h'
  | lst o es =>
    have h' : (if clos es = true then some es else none) = some ds := h
    by_cases hc : clos es = true
    · rw [if_pos hc] at h'; cases h'; exact .inr ⟨rfl, hc⟩
    · rw [if_neg hc] at h'; cases h'
  | ro es =>
    have h' : (if clos es = true then some es else none) = some ds := h
    by_cases hc : clos es = true
    · rw [if_pos hc] at h'; cases h'; exact .inr ⟨rfl, hc⟩
    · rw [if_neg hc] at h'; cases h'
  | _ => cases h
theorem pairs_get : ∀ {ds : List D} {k i : Nat} {d : D}, (pairs k ds)[i]? = some d → ∃ x, ds[i]? = some x ∧ d = .tup [.int ((k + i : Nat) : Int), x]
  | [], _, _, _, h => by simp [pairs] at h
  | x :: ds, k, 0, d, h => by
    simp [pairs] at h
    exact ⟨x, rfl, h.symm⟩
  | x :: ds, k, i + 1, d, h => by
    have h' : (pairs (k + 1) ds)[i]? = some d := by simpa [pairs] using h
    obtain ⟨y, h1, h2⟩ := pairs_get h'
    refine ⟨y, by simpa using h1, ?_⟩
    rw [h2]
    have : k + 1 + i = k + (i + 1) := by omega
    rw [this]
theorem pairs_len : ∀ (ds : List D) (k : Nat), (pairs k ds).length = ds.length
  | [], _ => rfl
  | _ :: ds, k => by simp [pairs, pairs_len ds]
theorem pair_new {C2 H2 : Hp} {L : List Ent} {p : Addr} {i : Nat} {x : V} {d : D} (w : Wld c C2 H2 L) (hp : H2 p = none) (r : RpF c.W C2 H2 x d []) :
    Wld c (upd C2 p (.tup [.int (i : Nat), x])) (upd H2 p (.tup [.int (i : Nat), x])) ((.ref p, .tup [.int ((0 + i : Nat) : Int), d]) :: L) := by
  rw [Nat.zero_add]
  exact w.newTup hp (RpFs.cons (F := []) (G := []) (.int _) (.one r))
theorem ri_enum (h : RK c W te fe) : RI c W (iEnumU c.K (tCons te tNil)) (fiEnum fe) := fun σ H C env T s Q q x nb =>
  h σ H C env T s _ (fun d v H1 C1 X e1 s1 k1 t1 hold => by
      unfold fiEnum at q nb
      rw [e1, O.bind_ok] at q nb
      have w1 : Wld c C1 H1 (X ++ (T ++ slotsE σ env)) := by rw [← List.append_assoc]; exact s1.w
      cases hd : itemsOf d with
      | none => rw [hd] at nb; exact absurd rfl nb
      | some ds =>
        rw [hd, O.of_some, O.bind_ok] at q
        rcases items_seq hd with ⟨l, rfl, rfl⟩ | ⟨hs, hc⟩
        · obtain ⟨F, r⟩ := hold C1 H1 _ w1
          cases r
          refine .inr (.inr ⟨S l, rfl, q _ _ H1 C1 X rfl s1 k1 t1 fun i H2 C2 L hi w => ⟨fun d e => ?_, fun e => ?_⟩⟩)
          · obtain ⟨y, hy, rfl⟩ := pairs_get e
            obtain ⟨a, ha, rfl⟩ := signs_get hy
            refine ⟨by show i < (S l).cps.size; simpa [S] using (List.getElem?_eq_some_iff.mp ha).1, fun x H3 yl => ?_⟩
            obtain ⟨p, b, rfl, hp, rfl, hb⟩ := yl
            have : b = a := by
              have hb' : l[i]? = some b := by simpa [S] using hb
              rw [ha] at hb'; exact (Option.some.inj hb').symm
            subst this
            exact ⟨_, pair_new w hp (.str [b]), same_upd (w.sub.free hp), same_upd hp⟩
          · show i = (S l).cps.size
            rw [pairs_len] at e
            unfold signsOf at e
            simp [S, e]
        · obtain ⟨a, ev, lt | lt⟩ := kept hold w1 hs
          · obtain ⟨ys0, G0, hy0, _⟩ := lt H1 C1 _ w1
            refine .inl ⟨a, ys0, by rw [ev], hy0, q _ _ H1 C1 X rfl s1 k1 t1 fun i H2 C2 L hi w => ?_⟩
            obtain ⟨ys, G2, hy, ry⟩ := lt H2 C2 L w
            refine ⟨fun d e => ?_, fun e => ⟨ys, hy, by rw [ry.length, e, pairs_len]; exact Nat.le_refl _⟩⟩
            obtain ⟨z, hz, rfl⟩ := pairs_get e
            obtain ⟨u, G3, hu, ru, _⟩ := ry.get hz
            refine ⟨⟨ys, u, hy, hu⟩, fun x H3 yl => ?_⟩
            obtain ⟨p, b, rfl, hp, rfl, hb⟩ := yl
            have : b = u := by
              have := hb ys hy
              rw [hu] at this; exact (Option.some.inj this).symm
            subst this
            exact ⟨_, pair_new w hp (ru.c (clo_item hc hz) (Same.refl _)), same_upd (w.sub.free hp), same_upd hp⟩
          · obtain ⟨ys0, G0, hy0, _⟩ := lt H1 C1 _ w1
            refine .inr (.inl ⟨a, ys0, by rw [ev], hy0, q _ _ H1 C1 X rfl s1 k1 t1 fun i H2 C2 L hi w => ?_⟩)
            obtain ⟨ys, G2, hy, ry⟩ := lt H2 C2 L w
            refine ⟨fun d e => ?_, fun e => ⟨ys, hy, by rw [ry.length, e, pairs_len]⟩⟩
            obtain ⟨z, hz, rfl⟩ := pairs_get e
            obtain ⟨u, G3, hu, ru, _⟩ := ry.get hz
            refine ⟨⟨ys, u, hy, hu⟩, fun x H3 yl => ?_⟩
            obtain ⟨p, b, rfl, hp, rfl, hb⟩ := yl
            have : b = u := by
              have := hb ys hy
              rw [hu] at this; exact (Option.some.inj this).symm
            subst this
            exact ⟨_, pair_new w hp (ru.c (clo_item hc hz) (Same.refl _)), same_upd (w.sub.free hp), same_upd hp⟩)
    (fun y cl dx H' C' e1 => x y cl dx H' C' (by unfold fiEnum; rw [e1]; rfl)) (fun e1 => nb (by unfold fiEnum; rw [e1]; rfl))
/-! ### comprehensions: no exception may leave them -/
def W0 : WX := fun _ _ _ _ => False
def wipeE (env : Env) : List Nat → Env
  | [] => env
  | v :: vs => (wipeE env vs).set v .no
theorem Stt.wipes {C H : Hp} {σ : L2.St} {env : Env} {T : List Ent} (s : Stt c C σ H env T) : ∀ vs : List Nat, Stt c C (L2.wipe σ vs) H (wipeE env vs) T
  | [] => s
  | v :: vs => (s.wipes vs).wipe
theorem wipeE_get (env : Env) (vs : List Nat) (k : Nat) : (wipeE env vs)[k]? = if k ∈ vs then (env[k]?).map fun _ => Sl.no else env[k]? := by
  induction vs with
  | nil => simp [wipeE]
  | cons i vs ih =>
    show ((wipeE env vs).set i .no)[k]? = _
    have len : ∀ vs : List Nat, (wipeE env vs).length = env.length := fun vs => by
      induction vs with
      | nil => rfl
      | cons i vs ih => show ((wipeE env vs).set i .no).length = _; rw [List.length_set, ih]
    by_cases h : k = i
    · subst h
      by_cases hl : k < (wipeE env vs).length
      · rw [List.getElem?_set_self hl]
        have hl2 : k < env.length := by rw [len] at hl; exact hl
        simp [hl2]
      · have hl2 : ¬ k < env.length := by rw [len] at hl; exact hl
        rw [List.getElem?_eq_none (by rw [List.length_set]; omega)]
        simp [hl2]
    · rw [List.getElem?_set_ne (Ne.symm h), ih]
      simp [h]
theorem wipeE_set {env : Env} {vs : List Nat} {j : Nat} {x : Sl} (h : j ∈ vs) : wipeE (env.set j x) vs = wipeE env vs := by
  apply List.ext_getElem?
  intro k
  rw [wipeE_get, wipeE_get]
  by_cases hk : k = j
  · subst hk
    rw [if_pos h, if_pos h]
    by_cases hl : k < env.length
    · rw [List.getElem?_set_self hl]; simp [hl]
    · rw [List.getElem?_eq_none (by rw [List.length_set]; omega), List.getElem?_eq_none (by omega)]
  · rw [List.getElem?_set_ne (Ne.symm hk)]
theorem wipeE_wipeE (env : Env) (vs : List Nat) : wipeE (wipeE env vs) vs = wipeE env vs := by
  apply List.ext_getElem?
  intro k
  rw [wipeE_get, wipeE_get]
  by_cases h : k ∈ vs
  · rw [if_pos h, if_pos h]
    cases env[k]? <;> rfl
  · rw [if_neg h, if_neg h]
theorem slots_wipes (σ : L2.St) (env : Env) : ∀ vs : List Nat, ∃ R, (slotsE (L2.wipe σ vs) (wipeE env vs) ++ R).Perm (slotsE σ env)
  | [] => ⟨[], by simp [L2.wipe, wipeE]⟩
  | i :: vs => by
    obtain ⟨R, h⟩ := slots_wipes σ env vs
    obtain ⟨R2, h2⟩ := slots_no (σ := L2.wipe σ vs) (env := wipeE env vs) (i := i)
    refine ⟨R2 ++ R, ?_⟩
    show (slotsE ((L2.wipe σ vs).set i none) ((wipeE env vs).set i .no) ++ (R2 ++ R)).Perm _
    rw [slots_skip, ← List.append_assoc]
    exact (h2.append_right R).trans h
def RGw (c : Cn) (vs : List Nat) (g : TG) (fg : FG) : Prop := ∀ (σ : L2.St) (H C : Hp) (env : Env) (T : List Ent) (v : V) (d : D), Stt c C σ H env ((v, d) :: T) → ∀ Q : L2.St → Hp → Prop,
  (∀ e σ', fg d env = some e → Stt c C σ' H e T → L2.wipe σ' vs = L2.wipe σ vs → wipeE e vs = wipeE env vs → Q σ' H) → fg d env ≠ none → g v σ H Q
theorem rgw_name {vs : List Nat} {i : Nat} (h : i ∈ vs) : RGw c vs (gName i) (fgName i) := fun σ H C env T v d s Q q nb => q _ _ rfl s.set (wipe_set h) (wipeE_set h)
def O.nox {α : Type} : O α → O α
  | .exc _ => .bad
  | o => o
@[simp] theorem O.nox_ok {α : Type} (a : α) : (O.ok a).nox = .ok a := rfl
@[simp] theorem O.nox_bad {α : Type} : (O.bad : O α).nox = .bad := rfl
@[simp] theorem O.nox_exc {α : Type} (x : Exc) : (O.exc x : O α).nox = .bad := rfl
theorem nox_st {α β : Type} {o : O α} {f : α → O β} (h : o.nox.bind f ≠ .bad) : o ≠ .bad ∧ ∀ x, o ≠ .exc x := ⟨fun e => h (by rw [e]; rfl), fun x e => h (by rw [e]; rfl)⟩
def lcF (fg : FG) (ft : FT) (fe : FP) (env : Env) : List D → List D → O D
  | [], acc => .ok (.lst true acc)
  | d :: ds, acc => match fg d env with
    | none => .bad
    | some e => (ft e).nox.bind fun b => if b = true then (fe e).nox.bind fun y => @ite _ (acc.length < 16777216) (Classical.propDecidable _) (lcF fg ft fe env ds (acc ++ [y])) .bad else lcF fg ft fe env ds acc
theorem lcF_cons (fg : FG) (ft : FT) (fe : FP) (env : Env) (d : D) (ds acc : List D) : lcF fg ft fe env (d :: ds) acc = match fg d env with
    | none => .bad
    | some e => (ft e).nox.bind fun b => if b = true then (fe e).nox.bind fun y => @ite _ (acc.length < 16777216) (Classical.propDecidable _) (lcF fg ft fe env ds (acc ++ [y])) .bad else lcF fg ft fe env ds acc := rfl
def fLc (fi : FA) (fg : FG) (ft : FT) (fe : FP) (vs : List Nat) : FP := fun env => (fi env).bind fun ds => lcF fg ft fe (wipeE env vs) ds []
/-- an open list of the entries, one more goes in -/
theorem Wld.snocL {C H : Hp} {L : List Ent} {p : Addr} {acc : List D} {y : V} {d : D} (w : Wld c C H ((y, d) :: ((.ref p, .lst true acc) :: L))) : ∃ xs, H p = some (.lst xs) ∧ xs.length = acc.length ∧ Wld c C (upd H p (.lst (xs ++ [y]))) ((.ref p, .lst true (acc ++ [d])) :: L) := by
  have w2 : Wld c C H ((.ref p, .lst true acc) :: ([(y, d)] ++ L)) := w.perm (.swap _ _ _)
  obtain ⟨F, r⟩ := w2.view (e := (.ref p, .lst true acc)) (by simp)
  cases r with
  | own e a =>
    rename_i xs F
    refine ⟨xs, e, a.length, w2.mut fun F1 G r1 rX nd => ?_⟩
    cases r1 with
    | own e' a' =>
      rename_i ys F2
      have : xs = ys := by
        rw [e] at e'
        have := Option.some.inj e'
        injection this
      subst this
      unfold RpE at rX
      obtain ⟨u, eu, ru⟩ := rps1 rX
      have eu' : y = u := by simpa using eu
      subst eu'
      have nd' := List.nodup_cons.mp (show (p :: (F2 ++ G)).Nodup from nd)
      refine ⟨p :: (F2 ++ G), .own upd_same (RpFs.mono (Same.refl _) (fun b hb => upd_ne fun z => nd'.1 (z ▸ hb)) (a'.snoc ru)), nd, by simp, fun b hb => hb⟩
theorem rp_lc {wi : TI} {fi : FA} {g : TG} {fg : FG} {vs : List Nat} (hi : RI c W wi fi) (hg : RGw c vs g fg) (ht : RT c W0 tt ft) (he : RP c W0 te fe) : RP c W (tLc wi g tt te vs) (fLc fi fg ft fe vs) := fun σ H C env T s Q q x nb =>
  hi σ H C env T s _ (fun ds J H1 C1 X e1 s1 k1 t1 st => by
      unfold fLc at q x nb
      rw [e1, O.bind_ok] at q x nb
      intro p hp
      have w1 : Wld c C1 (upd H1 p (.lst [])) ((.ref p, .lst true []) :: (X ++ T ++ slotsE σ env)) := s1.w.newLst hp .nil
      have t1' : Same H (upd H1 p (.lst [])) := t1.trans (same_upd hp)
      refine ⟨fun i m H2 => i ≤ ds.length ∧ m + i = ds.length ∧ ∃ C2 acc, Wld c C2 H2 ((.ref p, .lst true acc) :: (X ++ T ++ slotsE σ env)) ∧ Same C1 C2 ∧ Same H H2 ∧ lcF fg ft fe (wipeE env vs) (ds.drop i) acc = lcF fg ft fe (wipeE env vs) ds [], ⟨ds.length, by omega, by omega, C1, [], w1, Same.refl _, t1', by rw [List.drop_zero]⟩, ?_⟩
      rintro i m H2 ⟨hil, hm, C2, acc, w2, k2, t2, eq2⟩
      have w2' : Wld c C2 H2 (X ++ ((.ref p, .lst true acc) :: (T ++ slotsE σ env))) := w2.perm (by
        rw [List.append_assoc]
        exact List.perm_middle)
      obtain ⟨st1, st2⟩ := st i H2 C2 _ hil w2'
      have hHp : H p = none := t1.free hp
      by_cases hlt : i < ds.length
      · obtain ⟨go, yl⟩ := st1 ds[i] (List.getElem?_eq_getElem hlt)
        rw [List.drop_eq_getElem_cons hlt, lcF_cons] at eq2
        refine .inr ⟨go, fun H' => ∃ C' acc', Wld c C' H' ((.ref p, .lst true acc') :: (X ++ T ++ slotsE σ env)) ∧ Same C1 C' ∧ Same H H' ∧ lcF fg ft fe (wipeE env vs) (ds.drop (i + 1)) acc' = lcF fg ft fe (wipeE env vs) ds [], ?_, fun x3 H3 y3 => ?_⟩
        · rintro H' ⟨C', acc', z⟩
          exact ⟨m - 1, by omega, by omega, by omega, C', acc', z⟩
        · obtain ⟨C3, w3, k3, t3⟩ := yl x3 H3 y3
          obtain ⟨R, hR⟩ := slots_wipes σ env vs
          have s3w : Stt c C3 (L2.wipe σ vs) H3 (wipeE env vs) ((x3, ds[i]) :: ((.ref p, .lst true acc) :: (X ++ T ++ R))) := by
            refine ⟨(Stt.wipes (T := []) ⟨s1.e, by
              show Wld c C3 H3 (slotsE σ env)
              exact (w3.perm (L' := ((x3, ds[i]) :: (X ++ ((.ref p, .lst true acc) :: T))) ++ slotsE σ env) (by simp)).dropL⟩ vs).e, w3.perm ?_⟩
            show ((x3, ds[i]) :: ((.ref p, .lst true acc) :: (X ++ T ++ R ++ slotsE (L2.wipe σ vs) (wipeE env vs)))).Perm _
            refine List.Perm.cons _ ?_
            have p1 : (X ++ T ++ R ++ slotsE (L2.wipe σ vs) (wipeE env vs)).Perm (X ++ (T ++ slotsE σ env)) := by
              rw [List.append_assoc, List.append_assoc]
              exact ((List.perm_append_comm.trans hR).append_left T).append_left X
            exact (p1.cons _).trans List.perm_middle.symm
          refine hg (L2.wipe σ vs) H3 C3 (wipeE env vs) _ x3 ds[i] s3w _ (fun e4 σ4 h4 s4 wp wq => ⟨wp.trans (wipe_wipe σ vs), ?_⟩) (fun h4 => nb (by rw [← eq2, h4]))
          rw [h4] at eq2
          dsimp only at eq2
          have nt := nox_st (o := ft e4) (fun z => nb (by rw [← eq2]; exact z))
          have back : ∀ {H6 C6 : Hp} {acc' : List D} {σ6 : L2.St} {e6 : Env} {Z : List Ent}, Wld c C6 H6 (Z ++ ((.ref p, .lst true acc') :: (X ++ T ++ R)) ++ slotsE σ6 e6) → L2.wipe σ6 vs = L2.wipe σ vs → wipeE e6 vs = wipeE env vs → Wld c C6 H6 (Z ++ ((.ref p, .lst true acc') :: (X ++ T ++ slotsE σ env))) := fun {H6 C6 acc' σ6 e6 Z} w a b => by
            obtain ⟨R6, hR6⟩ := slots_wipes σ6 e6 vs
            rw [a, b] at hR6
            refine w.less (R := R6) ?_
            have p1 : (slotsE σ env ++ R6).Perm (R ++ slotsE σ6 e6) := by
              refine (hR.symm.append_right R6).trans ?_
              refine (List.perm_append_comm.append_right R6).trans ?_
              rw [List.append_assoc]
              exact hR6.append_left R
            simp only [List.append_assoc, List.cons_append]
            exact ((((p1.append_left T).append_left X).cons _).append_left Z)
          have wpp : L2.wipe σ4 vs = L2.wipe σ vs := wp.trans (wipe_wipe σ vs)
          have wqq : wipeE e4 vs = wipeE env vs := wq.trans (wipeE_wipeE env vs)
          refine ht σ4 H3 C3 e4 _ s4 _ (fun b H5 C5 e5 s5 k5 t5 => ?_) (fun y cl dx H' C' e5 => absurd e5 (nt.2 y)) nt.1
          rw [e5, O.nox_ok, O.bind_ok] at eq2
          cases b with
          | true =>
            rw [if_pos rfl] at eq2 ⊢
            have ne := nox_st (o := fe e4) (fun z => nb (by rw [← eq2]; exact z))
            refine he σ4 H5 C5 e4 _ s5 _ (fun y v6 H6 C6 e6 s6 k6 t6 => ?_) (fun y cl dx H' C' e6 => absurd e6 (ne.2 y)) ne.1
            rw [e6, O.nox_ok, O.bind_ok] at eq2
            by_cases hz : acc.length < 16777216
            · rw [if_pos hz] at eq2
              have w7 := back (Z := [(v6, y)]) s6.w wpp wqq
              obtain ⟨xs, hx, hl, w8⟩ := Wld.snocL w7
              refine ⟨xs, hx, by rw [hl]; exact hz, C6, acc ++ [y], w8, ((k2.trans k3).trans k5).trans k6, ?_, eq2⟩
              exact fun a u e => by
                have q6 := t6 a u (t5 a u (t3 a u (t2 a u e)))
                rw [upd_ne (ne_of_none e hHp)]; exact q6
            · exact absurd (by rw [← eq2, if_neg hz]) nb
          | false =>
            rw [if_neg Bool.false_ne_true] at eq2 ⊢
            exact ⟨C5, acc, back (Z := []) s5.w wpp wqq, (k2.trans k3).trans k5, ((t2.trans t3).trans t5), eq2⟩
      · have e : i = ds.length := by omega
        subst e
        rw [List.drop_length] at eq2
        refine .inl ⟨st2 rfl, q _ _ H2 C2 eq2.symm ⟨s1.e, ?_⟩ (k1.trans k2) t2⟩
        refine w2.less (R := X) ?_
        show ((.ref p, D.lst true acc) :: (T ++ slotsE σ env) ++ X).Perm ((.ref p, .lst true acc) :: (X ++ T ++ slotsE σ env))
        rw [List.append_assoc]
        exact (List.perm_append_comm (l₁ := T ++ slotsE σ env) (l₂ := X)).cons _)
    (fun y cl dx H' C' e1 => x y cl dx H' C' (by unfold fLc; rw [e1]; rfl)) (fun e1 => nb (by unfold fLc; rw [e1]; rfl))
end
end
end CV
namespace CV
noncomputable section
open PySem L2
open PyProof.Rows (envOfC)
/-! ### defs that change nothing that stood: what they answer -/
def spP (W : Wp) (F : List D → O D) : Sp := fun vs H Q E => ∃ C ds Fv, Same C H ∧ RpFs W C H vs ds Fv ∧
  (∀ d v H' C', F ds = .ok d → Wld ⟨W, H, C, [], fun _ => .non⟩ C' H' [(v, d)] → Q v H') ∧
  (∀ x cl dx H' C', F ds = .exc x → Wld ⟨W, H, C, [], fun _ => .non⟩ C' H' [] → XR W C' x cl dx → E cl dx H') ∧ F ds ≠ .bad
def fDef (n N : Nat) (fs : FS) : List D → O D := fun ds => if ds.length = n then (match fs (ds.map Sl.bor ++ List.replicate (N - n) Sl.no) with
  | .ret d _ => .ok d
  | .nx _ => .ok .non
  | .exc x _ => .exc x
  | _ => .bad) else .bad
def fCall (F : List D → O D) (a : FA) : FP := fun env => (a env).bind F
def WD (E : XK) : WX := fun cls d _ H => E cls d H
section
variable {c : Cn} {W : WX} {te ta tb : TE} {fe fa fb : FP} {tt tu : TT} {ft fu : FT} {tas : TA} {fas : FA} {ts tz : TS} {fs fz : FS}
theorem Wld.start {Wp : Wp} {H C : Hp} (h : Same C H) : Wld ⟨Wp, H, C, [], fun _ => .non⟩ C H [] := ⟨fun _ _ _ e => e, h, Same.refl _, fun a o e n => (by
  have n' : C a = none := n
  rw [n'] at e
  cases e), fun _ h => h, [], .nil, by simp, by simp⟩
/-- behind a callee that changed nothing that stood -/
theorem Wld.after {C H C' H' : Hp} {L E : List Ent} (k : Wld c C H L) (k' : Wld ⟨c.W, H, C, [], fun _ => .non⟩ C' H' E) : Wld c C' H' (E ++ L) := by
  obtain ⟨F, h1, h2, h3⟩ := k.own
  obtain ⟨G, g1, g2, g3⟩ := k'.own
  have s1 : Same H H' := fun a o e => k'.same a o (by simp) e
  have fk : ∀ a ∈ F, H' a = H a := same_fp (RpFs.there h1) s1
  have gn : ∀ a ∈ G, H a = none := fun a ha => ((g3 a ha).2).resolve_left (by simp)
  refine ⟨fun a o hm e => s1 a o (k.same a o hm e), k'.sub, k.ext.trans k'.ext, fun a o e n => ?_, fun a h => k'.old a (k.old a h), G ++ F, RpE.app g1 (RpFs.mono k'.ext fk h1), ?_, fun a ha => ?_⟩
  · cases q : C a with
    | some u => exact k.new a u q n
    | none =>
      rcases k'.new a o e q with z | z | ⟨ys, z⟩
      · exact .inl (Classical.byContradiction fun y => k.old a y z)
      · simp at z
      · cases e0 : c.H0 a with
        | none => exact .inl rfl
        | some u =>
          by_cases hm : a ∈ c.M
          · exact .inr (.inl hm)
          · have := k.same a u hm e0
            have z' : H a = some (.tup ys) := z
            rw [this] at z'
            exact .inr (.inr ⟨ys, z'⟩)
  · rw [List.nodup_append]
    exact ⟨g2, h2, fun a ha b hb e => by
      subst e
      exact RpFs.there h1 a hb (gn a ha)⟩
  · rcases List.mem_append.mp ha with q | q
    · exact ⟨(g3 a q).1, .inr (Classical.byContradiction fun z => k.old a z (gn a q))⟩
    · refine ⟨?_, (h3 a q).2⟩
      cases e : C' a with
      | none => rfl
      | some u =>
        rcases k'.new a u e (h3 a q).1 with z | z | ⟨ys, z⟩
        · exact absurd z (RpFs.there h1 a q)
        · simp at z
        · exact absurd z ((RpFs.there2 h1 a q).2 ys)
theorem rp_call {F : List D → O D} (ha : RAV c W tas fas) : RP c W (tCallS (spP c.W F) (WE W) tas) (fCall F fas) := fun σ H C env T s Q q x nb =>
  ha σ H C env T s _ (fun ds vs H1 C1 G e1 s1 k1 t1 r1 => by
      have ee : fCall F fas env = F ds := by unfold fCall; rw [e1]; rfl
      refine ⟨C1, ds, G, s1.w.sub, r1, fun d v H2 C2 e2 w2 => ?_, fun y cl dx H2 C2 e2 w2 xr => ?_, fun e2 => nb (by rw [ee, e2])⟩
      · exact q d v H2 C2 (by rw [ee, e2]) ⟨s1.e, by
        have w3 := Wld.after s1.w w2
        exact w3⟩ (k1.trans w2.ext) (t1.trans fun a o e => w2.same a o (by simp) e)
      · exact x y cl dx H2 C2 (by rw [ee, e2]) ⟨s1.e, by
        have w3 := Wld.after s1.w w2
        exact w3⟩ (k1.trans w2.ext) (t1.trans fun a o e => w2.same a o (by simp) e) xr)
    (fun y cl dx H' C' e1 => x y cl dx H' C' (by unfold fCall; rw [e1]; rfl)) (fun e1 => nb (by unfold fCall; rw [e1]; rfl))
end
theorem env_start {Wp : Wp} {H C : Hp} {vs : List V} {ds : List D} {F : List Addr} (k : Nat) (r : RpFs Wp C H vs ds F) : EnvOk ⟨Wp, H, C, [], fun _ => .non⟩ (vs.map some ++ List.replicate k none) (ds.map Sl.bor ++ List.replicate k Sl.no) := by
  have hl := r.length
  refine ⟨by simp [hl], fun i d e => ?_, fun i d e => ?_, fun i e => ?_, fun i d e => ?_⟩
  · by_cases hi : i < ds.length
    · rw [List.getElem?_append_left (by simpa using hi), List.getElem?_map] at e
      obtain ⟨x, _, h2⟩ := Option.map_eq_some_iff.mp e
      cases h2
    · rw [List.getElem?_append_right (by simpa using hi)] at e
      have := List.mem_of_getElem? e
      simp at this
  · by_cases hi : i < ds.length
    · rw [List.getElem?_append_left (by simpa using hi), List.getElem?_map] at e
      obtain ⟨x, h1, h2⟩ := Option.map_eq_some_iff.mp e
      cases h2
      obtain ⟨v, G, h3, h4, _⟩ := r.get h1
      refine ⟨v, G, ?_, h4, by simp⟩
      rw [List.getElem?_append_left (by simpa [hl] using hi), List.getElem?_map, h3]
      rfl
    · rw [List.getElem?_append_right (by simpa using hi)] at e
      have := List.mem_of_getElem? e
      simp at this
  · by_cases hi : i < ds.length
    · rw [List.getElem?_append_left (by simpa using hi), List.getElem?_map] at e
      obtain ⟨x, _, h2⟩ := Option.map_eq_some_iff.mp e
      cases h2
    · rw [List.getElem?_append_right (by simpa using hi)] at e
      have := List.mem_of_getElem? e
      simp at this
  · by_cases hi : i < ds.length
    · rw [List.getElem?_append_left (by simpa using hi), List.getElem?_map] at e
      obtain ⟨x, _, h2⟩ := Option.map_eq_some_iff.mp e
      cases h2
    · rw [List.getElem?_append_right (by simpa using hi)] at e
      have := List.mem_of_getElem? e
      simp at this
theorem slots_start (vs : List V) (ds : List D) (k : Nat) : slotsE (vs.map some ++ List.replicate k none) (ds.map Sl.bor ++ List.replicate k Sl.no) = [] := by
  have go : ∀ (σ : List (Option V)) (env : Env), (∀ s ∈ env, ∀ d, s ≠ .own d ∧ s ≠ .io d) → slotsE σ env = [] := fun σ => by
    induction σ with
    | nil => intro env _; cases env <;> rfl
    | cons x σ ih =>
      intro env h
      cases env with
      | nil => cases x <;> rfl
      | cons y env =>
        rw [slots_cons, ih env fun s hs => h s (by simp [hs])]
        cases x <;> cases y <;> first | rfl | exact absurd rfl (h _ (List.mem_cons_self ..) _).1 | exact absurd rfl (h _ (List.mem_cons_self ..) _).2
  refine go _ _ fun s hs d => ⟨fun e => ?_, fun e => ?_⟩
  all_goals
    subst e
    rcases List.mem_append.mp hs with q | q
    · simp at q
    · simp at q
/-- a def's body keeps its promise -/
theorem body_P {Wp : Wp} {n : Nat} {N : List Str} {t : WX → TS} {fs : FS} (h : ∀ (c : Cn) (W : WX), c.W = Wp → RS c W (t W) fs) (hn : n ≤ N.length)
    (vs : List V) (H : Hp) (Q : VK) (E : XK) (hs : spP Wp (fDef n N.length fs) vs H Q E) : t (WD E) { nx := fun _ H' => Q .non H', rt := Q } (L2.start N vs) H := by
  obtain ⟨C, ds, Fv, hC, hr, q, x, nb⟩ := hs
  have hl := hr.length
  by_cases hd : ds.length = n
  · have ee : fDef n N.length fs ds = (match fs (ds.map Sl.bor ++ List.replicate (N.length - n) Sl.no) with
      | .ret d _ => .ok d
      | .nx _ => .ok .non
      | .exc x _ => .exc x
      | _ => .bad) := by unfold fDef; rw [if_pos hd]
    rw [ee] at q x nb
    have hst : L2.start N vs = vs.map some ++ List.replicate (N.length - n) none := by
      unfold L2.start
      rw [hl, hd]
    rw [hst]
    have s0 : Stt ⟨Wp, H, C, [], fun _ => .non⟩ C (vs.map some ++ List.replicate (N.length - n) none) H (ds.map Sl.bor ++ List.replicate (N.length - n) Sl.no) [] :=
      ⟨env_start _ hr, by rw [slots_start]; exact Wld.start hC⟩
    have go : ∀ {L : List Ent} {C' H' : Hp} {e : Ent}, Wld ⟨Wp, H, C, [], fun _ => .non⟩ C' H' (e :: L) → Wld ⟨Wp, H, C, [], fun _ => .non⟩ C' H' [e] := fun {L C' H' e} w => w.less (L' := [e]) (R := L) (by exact .refl _)
    have go0 : ∀ {L : List Ent} {C' H' : Hp}, Wld ⟨Wp, H, C, [], fun _ => .non⟩ C' H' L → Wld ⟨Wp, H, C, [], fun _ => .non⟩ C' H' [] := fun {L C' H'} w => w.less (L' := []) (R := L) (by exact .refl _)
    refine h ⟨Wp, H, C, [], fun _ => .non⟩ (WD E) rfl _ H C _ [] _ s0 (fun e σ' H' C' e1 s1 k1 => ?_) (fun d e v σ' H' C' e1 s1 k1 => ?_) (fun e σ' H' C' e1 => ?_) (fun e σ' H' C' e1 => ?_) (fun y e cl dx σ' H' C' e1 s1 k1 xr => ?_) (fun e1 => nb (by rw [e1]))
    · exact q .non .non H' C' (by rw [e1]) (go (s1.w.push .non))
    · exact q d v H' C' (by rw [e1]) (go s1.w)
    · exact absurd (by rw [e1]) nb
    · exact absurd (by rw [e1]) nb
    · exact x y cl dx H' C' (by rw [e1]) (go0 s1.w) xr
  · exact absurd (by unfold fDef; rw [if_neg hd]) nb
theorem len_P {Wp : Wp} {n N : Nat} {fs : FS} : ∀ vs H Q E, spP Wp (fDef n N fs) vs H Q E → vs.length = n := fun vs H Q E ⟨C, ds, Fv, _, hr, _, _, nb⟩ => by
  rw [hr.length]
  exact Classical.byContradiction fun hd => nb (by unfold fDef; rw [if_neg hd])
section
variable {P : Program} {w : World} {K : Fg} {mg : Str → Option Value} {base : Heap}
/-- a def of the text whose body has been read -/
theorem defP {x : Str} {st : Stmt} {N ps : List Str} {k : Nat} {Wp : Wp} {fs : FS} (F : FunAt K mg x st) (S : FnScope N ps (defScope st))
    (hbind : ∀ (kV doc pm : Value) (an : Option Addr) (cdv ct : Value) (us : List Value), us.length = ps.length → bindArgs (PySem.W.fnOf x x (defArgs st) (defBody st) (defScope st) .none kV doc pm an cdv ct) ⟨us, []⟩ = pure (ps.zip us))
    (hn : ps.length ≤ N.length) (t : WX → TS)
    (hb : ∀ (cdv : Value) (A : Around) (outer : List PySem.Env) (s : Shared) (H : Hp) (E : XK) (f : Addr), Room k (A.deeper (envOfC x (defScope st) s.heap.objs.size f cdv)) → PSs (cxOf (L2.CX P w) P w K mg base N x (defScope st) f cdv A outer s H E) (defBody st) (t (WD E)))
    (hr : ∀ (c : Cn) (W : WX), c.W = Wp → RS c W (t W) fs) : DefOk P w K mg base (L2.CX P w) x ps (k + 1) (spP Wp (fDef ps.length N.length fs)) := by
  obtain ⟨f, fd, hm, F⟩ := F
  exact ⟨f, fd, hm, F.kp, F.binds hbind, F.okX S len_P fun cdv A outer s H vs Q E hR h => ⟨t (WD E), hb cdv A outer s H E f hR, body_P hr hn vs H Q E h⟩⟩
end
section
variable {X : Cx} {k : Nat} {ps : List Str} {sp : Sp} {W : WX} {x : Str} {p pos : Pos} {e : Expr} {es : List Expr} {t : TA}
theorem pe_callP (h : DefOk X.prog X.w X.K X.mg X.base (L2.CX X.prog X.w) x ps k sp) (hr : Room k X.A) (tk : Takes X W) (ha : PA X (e :: es) t) (hg : Gl X x := by rfl) (hdb : (x == ("__debug__" : Str)) = false := by decide)
    (he : starEach (e :: es) X.env = (false, eval e X.env) :: starEach es X.env := by rfl) (hpl : (backTo pos (starEach es X.env)).any (·.1) = false := by rfl) : PE X (.Call (.Name x p) (e :: es) [] pos) (tCallS sp (WE W) t) := by
  obtain ⟨f, fd, hm, hk, hb, F⟩ := h.ex
  exact pe_callS F hr hg hm hk hb (fun σ => passAt tk σ) ha hdb he hpl
theorem takesW0 {X : Cx} : Takes X W0 := takes0
end
/-! ### a law -/
def spLaw (K : Fg) : Sp := fun vs H Q _ => ∃ (a : Addr) (ns : List Int), vs = [.ref a] ∧ ns.length ≤ 63 ∧ SqL K H a (ns.map V.int) ∧ ∀ H', Q (.bl true) H'
theorem law_imp {Wp : Wp} {F : List D → O D} (h : ∀ ns : List Int, ns.length ≤ 63 → F [.ro (ns.map D.int)] = .ok (.bl true)) : ∀ vs H Q E, spLaw Wp.K vs H Q E → spP Wp F vs H Q E := fun vs H Q E ⟨a, ns, ev, hl, hs, q⟩ => by
  subst ev
  have e := h ns hl
  refine ⟨H, [.ro (ns.map D.int)], [], Same.refl _, .one (.ro hs (rps_ofInts ns)), fun d v H' C' e2 w => ?_, fun x cl dx H' C' e2 => ?_, by rw [e]; exact fun z => by cases z⟩
  · rw [e] at e2
    cases e2
    obtain ⟨G, r⟩ := w.view (e := (v, .bl true)) (by simp)
    cases r
    exact q H'
  · rw [e] at e2; cases e2
theorem law_walk {l : PySem.W.OpenLaw} {k : Nat} {q : Program} {loose : List Str} {XP : (Str → Option Value) → Heap → Prop} {YP : World → Heap → Prop} {d : DefRec} {K : Params → Fg} {x : Str} (hn : l.most = some 63) (hdf : d.params.defaults = []) (hr : Room k callerA)
    (hY : ∀ (w : World) (h : Heap), YP w h → (K w.params).In h)
    (F : ∀ (w : World) (mg : Str → Option Value) (fa : Addr) (h : Heap), (K w.params).In h → h.Ns mainGlobals mg → mg d.name = some (.ref fa) →
      ∃ fd : FuncData, (∀ (s : Shared) (u : Value), BindsTo s fd ⟨[u], []⟩ [(x, u)]) ∧ ∀ base : Heap, (K w.params).In base → base.Ns mainGlobals mg → FnOk l.prog w (K w.params) mg base (L2.CX l.prog w) k fa fd [x] (spLaw (K w.params))) :
    PySem.W.WalkO q loose XP YP l.row.toRowW d [] (fun f vs => PySem.call f vs) :=
  L2.walk_of (n := 63) (k := k) (x := x) (CX := fun w => L2.CX l.prog w) (sp := fun w => spLaw (K w.params)) hn (by decide) hdf hr hY F (fun w H a ns hl _ h => ⟨a, ns, rfl, hl, h, fun _ => rfl⟩) fun w H s e s' h => by
    obtain ⟨_, _, _, _, _, _, _, _, _, _, _, _, z⟩ := h
    exact z
end
end CV
namespace CV
noncomputable section
open PySem L2
/-! ### dicts -/
def keyOf1 : D → Option Key
  | .int i => some (.inl i)
  | .str l => some (.inr (S l))
  | _ => none
def keysOf : List D → Option (List Key)
  | [] => some []
  | d :: ds => (keyOf1 d).bind fun k => (keysOf ds).map (k :: ·)
def keyOf : D → Option KD
  | .tup ds => (keysOf ds).map .t
  | d => (keyOf1 d).map .k
def kindK : KD → Nat
  | .k _ => 0
  | .t _ => 1
def getD' {κ : Type} [DecidableEq κ] (ks : List κ) (ds : List D) (k : κ) : Option D := ((ks.zip ds).find? fun p => decide (p.1 = k)).map (·.2)
def putKs {κ : Type} [DecidableEq κ] (ks : List κ) (k : κ) : List κ := if k ∈ ks then ks else ks ++ [k]
def putDs {κ : Type} [DecidableEq κ] (ks : List κ) (ds : List D) (k : κ) (d : D) : List D := if k ∈ ks then (ks.zip ds).map (fun p => if p.1 = k then d else p.2) else ds ++ [d]
section
variable {W : Wp} {C H : Hp}
theorem key1_v {v : V} {d : D} {F : List Addr} {k : Key} (r : RpF W C H v d F) (h : keyOf1 d = some k) : v = kV k := by
  cases r <;> first | (cases h; done) | skip
  · cases h; rfl
  · cases h; rfl
theorem keys_v : ∀ {vs : List V} {ds : List D} {F : List Addr} {ks : List Key}, RpFs W C H vs ds F → keysOf ds = some ks → vs = ks.map kV
  | _, _, _, _, .nil, h => by cases h; rfl
  | _, _, _, _, .cons r t, h => by
    obtain ⟨k, h1, h2⟩ := Option.bind_eq_some_iff.mp h
    obtain ⟨ks, h3, h4⟩ := Option.map_eq_some_iff.mp h2
    subst h4
    rw [List.map_cons, key1_v r h1, keys_v t h3]
theorem key_v {v : V} {d : D} {F : List Addr} {k : KD} (r : RpF W C H v d F) (s : Same C H) (h : keyOf d = some k) : (∃ x, k = .k x ∧ v = kV x) ∨ (∃ xs b, k = .t xs ∧ v = .ref b ∧ H b = some (.tup (xs.map kV))) := by
  cases d with
  | tup ds =>
    obtain ⟨ks, h1, h2⟩ := Option.map_eq_some_iff.mp h
    subst h2
    cases r with
    | tup e a =>
      have := keys_v a h1
      subst this
      exact .inr ⟨ks, _, rfl, rfl, s _ _ e⟩
  | int i =>
    obtain ⟨x, h1, h2⟩ := Option.map_eq_some_iff.mp (show (keyOf1 (.int i)).map KD.k = some k from h)
    exact .inl ⟨x, h2.symm, key1_v r h1⟩
  | str i =>
    obtain ⟨x, h1, h2⟩ := Option.map_eq_some_iff.mp (show (keyOf1 (.str i)).map KD.k = some k from h)
    exact .inl ⟨x, h2.symm, key1_v r h1⟩
  | _ => cases h
theorem val_get {κ κ' : Type} [DecidableEq κ] [DecidableEq κ'] {g : κ → κ'} (hg : ∀ a b, g a = g b → a = b) (k : κ) : ∀ {kvs : List (κ × V)} {ds : List D} {F : List Addr}, RpFs W C H (kvs.map (·.2)) ds F →
    (valV kvs k = none ∧ getD' (kvs.map fun q => g q.1) ds (g k) = none) ∨ (∃ v d G, valV kvs k = some v ∧ getD' (kvs.map fun q => g q.1) ds (g k) = some d ∧ RpF W C H v d G ∧ d ∈ ds)
  | [], ds, F, r => by
    cases r
    exact .inl ⟨rfl, rfl⟩
  | p :: kvs, ds, F, r => by
    cases r with
    | @cons _ _ d ds F G r1 r2 =>
      by_cases e : p.1 = k
      · refine .inr ⟨p.2, d, F, valV_pos e, ?_, r1, by simp⟩
        unfold getD'
        rw [List.map_cons, List.zip_cons_cons, List.find?_cons]
        simp [e]
      · have e' : ¬ g p.1 = g k := fun z => e (hg _ _ z)
        have eg : getD' (List.map (fun q => g q.1) (p :: kvs)) (d :: ds) (g k) = getD' (kvs.map fun q => g q.1) ds (g k) := by
          unfold getD'
          rw [List.map_cons, List.zip_cons_cons, List.find?_cons]
          simp [e']
        rw [valV_neg e, eg]
        rcases val_get hg k r2 with h | ⟨v, d', G', h1, h2, h3, h4⟩
        · exact .inl h
        · exact .inr ⟨v, d', G', h1, h2, h3, by simp [h4]⟩
theorem put_rel {κ κ' : Type} [DecidableEq κ] [DecidableEq κ'] {g : κ → κ'} (hg : ∀ a b, g a = g b → a = b) {k : κ} {v : V} {d : D} (rv : RpF W C H v d []) {kvs : List (κ × V)} {ds : List D} (r : RpFs W C H (kvs.map (·.2)) ds []) :
    (putK kvs k v).map (fun q => g q.1) = putKs (kvs.map fun q => g q.1) (g k) ∧ RpFs W C H ((putK kvs k v).map (·.2)) (putDs (kvs.map fun q => g q.1) ds (g k) d) [] := by
  have hl : kvs.length = ds.length := by have := r.length; simpa using this
  have ha : (kvs.any fun kv => decide (kv.1 = k)) = true ↔ g k ∈ kvs.map fun q => g q.1 := by
    rw [List.any_eq_true, List.mem_map]
    constructor
    · rintro ⟨p, hp, e⟩
      exact ⟨p, hp, by rw [of_decide_eq_true e]⟩
    · rintro ⟨p, hp, e⟩
      exact ⟨p, hp, decide_eq_true (hg _ _ e)⟩
  unfold putK putKs putDs
  by_cases h : (kvs.any fun kv => decide (kv.1 = k)) = true
  · rw [if_pos h, if_pos (ha.mp h), if_pos (ha.mp h)]
    refine ⟨?_, ?_⟩
    · rw [List.map_map]
      apply List.map_congr_left
      intro p _
      show g (if p.1 = k then (p.1, v) else p).1 = g p.1
      by_cases e : p.1 = k
      · rw [if_pos e]
      · rw [if_neg e]
    · clear ha h
      induction kvs generalizing ds with
      | nil =>
        cases r
        exact .nil
      | cons p kvs ih =>
        have r' : RpFs W C H (p.2 :: kvs.map (·.2)) ds [] := r
        generalize hF : ([] : List Addr) = F0 at r'
        cases r' with
        | @cons _ _ d0 ds F G r1 r2 =>
          have hFG := List.append_eq_nil_iff.mp hF.symm
          obtain ⟨rfl, rfl⟩ := hFG
          have ih' := ih r2 (by simpa using hl)
          simp only [List.map_cons, List.zip_cons_cons]
          by_cases e : p.1 = k
          · rw [if_pos e, if_pos (by rw [e])]
            exact RpFs.cons (F := []) (G := []) rv ih'
          · rw [if_neg e, if_neg fun z => e (hg _ _ z)]
            exact RpFs.cons (F := []) (G := []) r1 ih'
  · rw [if_neg h, if_neg fun z => h (ha.mpr z), if_neg fun z => h (ha.mpr z)]
    refine ⟨by rw [List.map_append]; rfl, ?_⟩
    rw [List.map_append]
    exact r.snoc rv
theorem kInj : ∀ a b : Key, KD.k a = KD.k b → a = b := fun a b h => by cases h; rfl
theorem tInj : ∀ a b : List Key, KD.t a = KD.t b → a = b := fun a b h => by cases h; rfl
mutual
/-- data as a key of any depth -/
def nkOf : D → Option NK
  | .non => some .none
  | .int i => some (.num i)
  | .str l => some (.text (S l))
  | .tup ds => (nksOf ds).map .tup
  | _ => none
def nksOf : List D → Option (List NK)
  | [] => some []
  | d :: ds => (nkOf d).bind fun k => (nksOf ds).map (k :: ·)
end
mutual
theorem nk_v : ∀ {v : V} {d : D} {F : List Addr} {k : NK}, RpF W C H v d F → nkOf d = some k → NkV C k v
  | _, _, _, _, .non, h => by simp only [nkOf] at h; cases h; exact rfl
  | _, _, _, _, .bl _, h => by simp [nkOf] at h
  | _, _, _, _, .int _, h => by simp only [nkOf] at h; cases h; exact rfl
  | _, _, _, _, .str _, h => by simp only [nkOf] at h; cases h; exact rfl
  | _, _, _, _, .tup e a, h => by
    simp only [nkOf] at h
    obtain ⟨ks, h1, h2⟩ := Option.map_eq_some_iff.mp h
    subst h2
    exact ⟨_, _, rfl, e, nks_v a h1⟩
  | _, _, _, _, .lst _ _, h => by simp [nkOf] at h
  | _, _, _, _, .ro _ _, h => by simp [nkOf] at h
  | _, _, _, _, .own _ _, h => by simp [nkOf] at h
  | _, _, _, _, .dic _ _, h => by simp [nkOf] at h
  | _, _, _, _, .dio _ _, h => by simp [nkOf] at h
  | _, _, _, _, .mic _ _ _, h => by simp [nkOf] at h
  | _, _, _, _, .mio _ _ _, h => by simp [nkOf] at h
  | _, _, _, _, .inc _ _ _ _, h => by simp [nkOf] at h
  | _, _, _, _, .ino _ _ _ _, h => by simp [nkOf] at h
  | _, _, _, _, .xc0 _ _, h => by simp [nkOf] at h
  | _, _, _, _, .xc1 _ _ _ _, h => by simp [nkOf] at h
theorem nks_v : ∀ {vs : List V} {ds : List D} {F : List Addr} {ks : List NK}, RpFs W C H vs ds F → nksOf ds = some ks → NkVs C ks vs
  | _, _, _, _, .nil, h => by simp only [nksOf] at h; cases h; exact rfl
  | _, _, _, _, .cons r t, h => by
    simp only [nksOf] at h
    obtain ⟨k, h1, h2⟩ := Option.bind_eq_some_iff.mp h
    obtain ⟨ks, h3, h4⟩ := Option.map_eq_some_iff.mp h2
    subst h4
    exact ⟨_, _, rfl, nk_v r h1, nks_v t h3⟩
end
def kvM (kvs : List MRow) : List (NK × V) := kvs.map fun q => (q.1, q.2.2)
theorem valM_eq (kvs : List MRow) (k : NK) : valM kvs k = valV (kvM kvs) k := by
  unfold valM kvM
  induction kvs with
  | nil => rfl
  | cons p kvs ih =>
    rw [List.find?_cons, List.map_cons]
    by_cases e : p.1 = k
    · rw [decide_eq_true e, valV_pos e]; rfl
    · rw [decide_eq_false e, valV_neg e]; exact ih
theorem putM_eq (kvs : List MRow) (k : NK) (y v : V) : kvM (putM kvs k y v) = putK (kvM kvs) k v := by
  have e := valM_eq kvs k
  unfold putM putK
  rw [valV_any, ← e]
  split
  · unfold kvM
    rw [List.map_map, List.map_map]
    refine List.map_congr_left fun q _ => ?_
    show ((if q.1 = k then (q.1, q.2.1, v) else q).1, (if q.1 = k then (q.1, q.2.1, v) else q).2.2) = if q.1 = k then (q.1, v) else (q.1, q.2.2)
    split <;> rfl
  · unfold kvM
    rw [List.map_append]; rfl
theorem kvM_1 (kvs : List MRow) : (kvM kvs).map (fun q => id q.1) = kvs.map (·.1) := by unfold kvM; rw [List.map_map]; rfl
theorem kvM_2 (kvs : List MRow) : (kvM kvs).map (·.2) = kvs.map (·.2.2) := by unfold kvM; rw [List.map_map]; rfl
theorem RpF.mget {v x : V} {o : Bool} {ks : List NK} {ds : List D} {dk : D} {F G : List Addr} {k : NK} (r : RpF W C H v (.mix o ks ds) F) (s : Same C H) (rk : RpF W C H x dk G) (hk : nkOf dk = some k) (ho : k.ok = true) :
    ∃ a ov, v = .ref a ∧ MGet W.w H a x ov ∧ IsM W.w H a ∧ ((ov = none ∧ getD' ks ds k = none) ∨ ∃ u d G, ov = some u ∧ getD' ks ds k = some d ∧ RpF W C H u d G ∧ d ∈ ds) := by
  have sm : ∀ a ys, C a = some (.tup ys) → H a = some (.tup ys) := fun a ys e => s a _ e
  have main : ∀ (p : Addr) (kvs : List MRow) (F : List Addr), v = .ref p → H p = some (dxO W.w p kvs) → KeysV C kvs → ks = kvs.map (·.1) → RpFs W C H (kvs.map (·.2.2)) ds F → ∃ a ov, v = .ref a ∧ MGet W.w H a x ov ∧ IsM W.w H a ∧ ((ov = none ∧ getD' ks ds k = none) ∨ ∃ u d G, ov = some u ∧ getD' ks ds k = some d ∧ RpF W C H u d G ∧ d ∈ ds) := fun p kvs F ev e1 hkv ek ra => by
    subst ek
    refine ⟨p, valM kvs k, ev, ⟨kvs, k, e1, hkv.mono sm, (nk_v rk hk).mono sm, ho, rfl⟩, ⟨kvs, e1⟩, ?_⟩
    rw [valM_eq, ← kvM_1]
    exact val_get (g := id) (fun _ _ e => e) k (kvs := kvM kvs) (by rw [kvM_2]; exact ra)
  cases r with
  | mic e1 hkv ra => exact main _ _ _ rfl (s _ _ e1) hkv rfl ra
  | mio e1 hkv ra => exact main _ _ _ rfl e1 hkv rfl ra
/-- what a viewed dict holds -/
theorem RpF.dget {v x : V} {o : Bool} {t : Nat} {ks : List KD} {ds : List D} {dk : D} {F G : List Addr} {k : KD} (r : RpF W C H v (.dct o t ks ds) F) (s : Same C H) (rk : RpF W C H x dk G) (hk : keyOf dk = some k) (ht : kindK k = t) :
    ∃ a ov, v = .ref a ∧ DGet H a x ov ∧ IsD H a ∧ ((ov = none ∧ getD' ks ds k = none) ∨ ∃ u d G, ov = some u ∧ getD' ks ds k = some d ∧ RpF W C H u d G ∧ d ∈ ds) := by
  have main : ∀ (p : Addr) (xs : List V) (F : List Addr), v = .ref p → DicAt H t p ks xs → RpFs W C H xs ds F → ∃ a ov, v = .ref a ∧ DGet H a x ov ∧ IsD H a ∧ ((ov = none ∧ getD' ks ds k = none) ∨ ∃ u d G, ov = some u ∧ getD' ks ds k = some d ∧ RpF W C H u d G ∧ d ∈ ds) := fun p xs F ev hd ra => by
    rcases hd with ⟨et, kvs, e1, e2, e3⟩ | ⟨et, kvs, e1, e2, e3⟩
    · subst e2 e3
      rcases key_v rk s hk with ⟨y, rfl, ex⟩ | ⟨ys, b, rfl, _, _⟩
      · subst ex
        refine ⟨p, valV kvs y, ev, DGet.k e1, .inl ⟨kvs, .inl e1⟩, ?_⟩
        rcases val_get kInj y ra with ⟨h1, h2⟩ | ⟨u, d, G, h1, h2, h3, h4⟩
        · exact .inl ⟨h1, h2⟩
        · exact .inr ⟨u, d, G, h1, h2, h3, h4⟩
      · rw [et] at ht; cases ht
    · subst e2 e3
      rcases key_v rk s hk with ⟨y, rfl, ex⟩ | ⟨ys, b, rfl, ex, hb⟩
      · rw [et] at ht; cases ht
      · subst ex
        refine ⟨p, valV kvs ys, ev, DGet.t e1 hb, .inr ⟨kvs, .inl e1⟩, ?_⟩
        rcases val_get tInj ys ra with ⟨h1, h2⟩ | ⟨u, d, G, h1, h2, h3, h4⟩
        · exact .inl ⟨h1, h2⟩
        · exact .inr ⟨u, d, G, h1, h2, h3, h4⟩
  cases r with
  | dic hd ra => exact main _ _ _ rfl (hd.mono (.inr fun o q => s _ _ q)) ra
  | dio hd ra => exact main _ _ _ rfl hd ra
end
/-! in, not in; [k]; get -/
def gIn2 (d e : D) : Option D := match e with
  | .dct _ t ks ds => (keyOf d).bind fun k => if kindK k = t then some (.bl (getD' ks ds k).isSome) else none
  | .mix _ ks ds => (nkOf d).bind fun k => if k.ok = true then some (.bl (getD' ks ds k).isSome) else none
  | e => gIn d e
def gNotIn2 (d e : D) : Option D := match gIn2 d e with
  | some (.bl b) => some (.bl (!b))
  | _ => none
def rDIn (n : Bool) : R2 := fun x y H Q => ∃ a o, y = .ref a ∧ DGet H a x o ∧ Q (.bl (if n = true then !o.isSome else o.isSome)) H
def rMIn (w : World) (n : Bool) : R2 := fun x y H Q => ∃ a o, y = .ref a ∧ MGet w H a x o ∧ Q (.bl (if n = true then !o.isSome else o.isSome)) H
def xIn (W : Wp) : R2 := fun x y H Q => wIn W.K x y H Q ∨ (rDIn false x y H Q ∨ rMIn W.w false x y H Q)
def xNotIn (W : Wp) : R2 := fun x y H Q => wNotIn W.K x y H Q ∨ (rDIn true x y H Q ∨ rMIn W.w true x y H Q)
theorem op_mIn {X : Cx} (hu : X.A.units + 65 < cLine) : OpR X (compareOp .In) (rMIn X.w false) := fun pins s σ H x y v u Q I rx ry ⟨a, o, ey, g, q⟩ => by
  subst ey
  obtain rfl : u = Value.ref a := ry
  exact m_in (by omega) I g rx fun s3 I3 => ⟨.bl o.isSome, H, I3, rfl, q⟩
theorem op_mNotIn {X : Cx} (hu : X.A.units + 65 < cLine) : OpR X (compareOp .NotIn) (rMIn X.w true) := fun pins s σ H x y v u Q I rx ry ⟨a, o, ey, g, q⟩ => by
  subst ey
  obtain rfl : u = Value.ref a := ry
  exact m_notIn (by omega) I g rx fun s3 I3 => ⟨.bl (!o.isSome), H, I3, rfl, q⟩
theorem op_xIn {X : Cx} {cl : Str → Option Addr} (hu : X.A.units + 65 < cLine) : OpR X (compareOp .In) (xIn ⟨X.K, cl, X.w⟩) := (op_wIn hu).or (OpR.or (fun pins s σ H x y v u Q I rx ry ⟨a, o, ey, g, q⟩ => by
  subst ey
  obtain rfl : u = Value.ref a := ry
  exact d_in (by omega) I g rx fun s3 I3 => ⟨.bl o.isSome, H, I3, rfl, q⟩) (op_mIn hu))
theorem op_xNotIn {X : Cx} {cl : Str → Option Addr} (hu : X.A.units + 65 < cLine) : OpR X (compareOp .NotIn) (xNotIn ⟨X.K, cl, X.w⟩) := (op_wNotIn hu).or (OpR.or (fun pins s σ H x y v u Q I rx ry ⟨a, o, ey, g, q⟩ => by
  subst ey
  obtain rfl : u = Value.ref a := ry
  exact d_notIn (by omega) I g rx fun s3 I3 => ⟨.bl (!o.isSome), H, I3, rfl, q⟩) (op_mNotIn hu))
def gIx2 (d e : D) : Option D := match d with
  | .dct _ t ks ds => (keyOf e).bind fun k => if kindK k = t then getD' ks ds k else none
  | .mix _ ks ds => (nkOf e).bind fun k => if k.ok = true then getD' ks ds k else none
  | d => gIx d e
def xIx (W : Wp) : R2 := fun x y H Q => rIx W.K x y H Q ∨ ((∃ a v, x = .ref a ∧ DGet H a y (some v) ∧ Q v H) ∨ (∃ a v, x = .ref a ∧ MGet W.w H a y (some v) ∧ Q v H))
theorem ix_m {X : Cx} (hu : X.A.units + 9 < cLine) : IxR X (fun x y H Q => ∃ a v, x = .ref a ∧ MGet X.w H a y (some v) ∧ Q v H) := fun value slice pins s σ H x y v u Q I rx ry ⟨a, z, ex, g, q⟩ hs => by
  subst ex
  obtain rfl : v = Value.ref a := rx
  obtain ⟨kvs, _, e, _⟩ := g
  exact PyProof.Rows.tail_any (isM_at I ⟨kvs, e⟩).1 PySem.F.slot_dict_getitem.lookup (m_getItem hu I ⟨kvs, _, e, by assumption⟩ ry fun w' s' I' rw' => ⟨z, H, I', rw', q⟩) hs
theorem ix_xIx {X : Cx} {cl : Str → Option Addr} (hu : X.A.units + 9 < cLine) : IxR X (xIx ⟨X.K, cl, X.w⟩) := ix_seq.or (IxR.or (fun value slice pins s σ H x y v u Q I rx ry ⟨a, z, ex, g, q⟩ hs => by
  subst ex
  obtain rfl : v = Value.ref a := rx
  exact PyProof.Rows.tail_any (dict_typeIs I g) PySem.F.slot_dict_getitem.lookup (d_getItem (by omega) I g ry fun w' s' I' rw' => ⟨z, H, I', rw', q⟩) hs) (ix_m hu))
section
variable {c : Cn} {W : WX} {te ta tb : TE} {fe fa fb : FP} {tt tu : TT} {ft fu : FT} {tas : TA} {fas : FA} {ts tz : TS} {fs fz : FS}
theorem og_in2 : OpG c (xIn c.W) gIn2 := fun C H L x y d1 d2 d F1 F2 w r1 r2 e Q q => by
  cases d2 with
  | dct o t ks ds =>
    obtain ⟨k, h1, h2⟩ := Option.bind_eq_some_iff.mp (show (keyOf d1).bind _ = some d from e)
    by_cases ht : kindK k = t
    · rw [if_pos ht] at h2; cases h2
      obtain ⟨a, ov, ev, g, _, h3⟩ := r2.dget w.sub r1 h1 ht
      refine .inr (.inl ⟨a, ov, ev, g, ?_⟩)
      have : ov.isSome = (getD' ks ds k).isSome := by
        rcases h3 with ⟨z1, z2⟩ | ⟨u, d, G, z1, z2, _⟩ <;> rw [z1, z2] <;> rfl
      show Q (.bl ov.isSome) H
      rw [this]
      exact q _ H C (w.push (.bl _)) (Same.refl _) (Same.refl _)
    · rw [if_neg ht] at h2; cases h2
  | mix o ks ds =>
    obtain ⟨k, h1, h2⟩ := Option.bind_eq_some_iff.mp (show (nkOf d1).bind _ = some d from e)
    by_cases ht : k.ok = true
    · rw [if_pos ht] at h2; cases h2
      obtain ⟨a, ov, ev, g, _, h3⟩ := r2.mget w.sub r1 h1 ht
      refine .inr (.inr ⟨a, ov, ev, g, ?_⟩)
      have : ov.isSome = (getD' ks ds k).isSome := by
        rcases h3 with ⟨z1, z2⟩ | ⟨u, d, G, z1, z2, _⟩ <;> rw [z1, z2] <;> rfl
      show Q (.bl ov.isSome) H
      rw [this]
      exact q _ H C (w.push (.bl _)) (Same.refl _) (Same.refl _)
    · rw [if_neg ht] at h2; cases h2
  | _ => exact .inl (og_in C H L x y _ _ d F1 F2 w r1 r2 e Q q)
theorem og_notin2 : OpG c (xNotIn c.W) gNotIn2 := fun C H L x y d1 d2 d F1 F2 w r1 r2 e Q q => by
  cases d2 with
  | dct o t ks ds =>
    unfold gNotIn2 at e
    cases h : gIn2 d1 (.dct o t ks ds) with
    | none => rw [h] at e; cases e
    | some z =>
      rw [h] at e
      obtain ⟨k, h1, h2⟩ := Option.bind_eq_some_iff.mp (show (keyOf d1).bind _ = some z from h)
      by_cases ht : kindK k = t
      · rw [if_pos ht] at h2; cases h2
        cases e
        obtain ⟨a, ov, ev, g, _, h3⟩ := r2.dget w.sub r1 h1 ht
        refine .inr (.inl ⟨a, ov, ev, g, ?_⟩)
        have : ov.isSome = (getD' ks ds k).isSome := by
          rcases h3 with ⟨z1, z2⟩ | ⟨u, d, G, z1, z2, _⟩ <;> rw [z1, z2] <;> rfl
        show Q (.bl (!ov.isSome)) H
        rw [this]
        exact q _ H C (w.push (.bl _)) (Same.refl _) (Same.refl _)
      · rw [if_neg ht] at h2; cases h2
  | mix o ks ds =>
    unfold gNotIn2 at e
    cases h : gIn2 d1 (.mix o ks ds) with
    | none => rw [h] at e; cases e
    | some z =>
      rw [h] at e
      obtain ⟨k, h1, h2⟩ := Option.bind_eq_some_iff.mp (show (nkOf d1).bind _ = some z from h)
      by_cases ht : k.ok = true
      · rw [if_pos ht] at h2; cases h2
        cases e
        obtain ⟨a, ov, ev, g, _, h3⟩ := r2.mget w.sub r1 h1 ht
        refine .inr (.inr ⟨a, ov, ev, g, ?_⟩)
        have : ov.isSome = (getD' ks ds k).isSome := by
          rcases h3 with ⟨z1, z2⟩ | ⟨u, d, G, z1, z2, _⟩ <;> rw [z1, z2] <;> rfl
        show Q (.bl (!ov.isSome)) H
        rw [this]
        exact q _ H C (w.push (.bl _)) (Same.refl _) (Same.refl _)
      · rw [if_neg ht] at h2; cases h2
  | _ => exact .inl (og_notin C H L x y _ _ d F1 F2 w r1 r2 e Q q)
theorem ow_ix2 : OpW c (xIx c.W) gIx2 := fun C H x y d1 d2 d F1 F2 s r1 r2 e Q q => by
  cases d1 with
  | dct o t ks ds =>
    obtain ⟨k, h1, h2⟩ := Option.bind_eq_some_iff.mp (show (keyOf d2).bind _ = some d from e)
    by_cases ht : kindK k = t
    · rw [if_pos ht] at h2
      obtain ⟨a, ov, ev, g, _, h3⟩ := r1.dget s r2 h1 ht
      rcases h3 with ⟨z1, z2⟩ | ⟨u, d', G, z1, z2, z3, _⟩
      · rw [z2] at h2; cases h2
      · rw [z2] at h2
        cases h2
        subst z1
        exact .inr (.inl ⟨a, u, ev, g, q _ _ z3⟩)
    · rw [if_neg ht] at h2; cases h2
  | mix o ks ds =>
    obtain ⟨k, h1, h2⟩ := Option.bind_eq_some_iff.mp (show (nkOf d2).bind _ = some d from e)
    by_cases ht : k.ok = true
    · rw [if_pos ht] at h2
      obtain ⟨a, ov, ev, g, _, h3⟩ := r1.mget s r2 h1 ht
      rcases h3 with ⟨z1, z2⟩ | ⟨u, d', G, z1, z2, z3, _⟩
      · rw [z2] at h2; cases h2
      · rw [z2] at h2
        cases h2
        subst z1
        exact .inr (.inr ⟨a, u, ev, g, q _ _ z3⟩)
    · rw [if_neg ht] at h2; cases h2
  | _ => exact .inl (ow_ix C H x y _ d2 d F1 F2 s r1 r2 e Q q)
/-- d.get(k, x): of closed things -/
def gGet2 (d k x : D) : Option D := match d with
  | .dct _ t ks ds => (keyOf k).bind fun kk => if kindK kk = t ∧ clos ds = true then some ((getD' ks ds kk).getD x) else none
  | .mix _ ks ds => (nkOf k).bind fun kk => if kk.ok = true ∧ clos ds = true then some ((getD' ks ds kk).getD x) else none
  | _ => none
def isDct : D → Bool
  | .dct _ _ _ _ => true
  | .mix _ _ _ => true
  | _ => false
def fGet2 (a b e : FP) : FP := fun env => (a env).bind fun d => if isDct d = true then (b env).bind fun k => (e env).bind fun x => .of (gGet2 d k x) else .bad
theorem RpF.isD {W : Wp} {C H : Hp} {v : V} {d : D} {F : List Addr} (r : RpF W C H v d F) (s : Same C H) (h : isDct d = true) : ∃ a, v = .ref a ∧ (IsD H a ∨ IsM W.w H a) := by
  have main : ∀ (t : Nat) (p : Addr) (ks : List KD) (xs : List V), DicAt H t p ks xs → IsD H p := fun t p ks xs hd => by
    rcases hd with ⟨et, kvs, e1, e2, e3⟩ | ⟨et, kvs, e1, e2, e3⟩
    · exact .inl ⟨kvs, .inl e1⟩
    · exact .inr ⟨kvs, .inl e1⟩
  cases r with
  | dic hd ra => exact ⟨_, rfl, .inl (main _ _ _ _ (hd.mono (.inr fun o q => s _ _ q)))⟩
  | dio hd ra => exact ⟨_, rfl, .inl (main _ _ _ _ hd)⟩
  | mic e1 q ra => exact ⟨_, rfl, .inr ⟨_, s _ _ e1⟩⟩
  | mio e1 q ra => exact ⟨_, rfl, .inr ⟨_, e1⟩⟩
  | _ => cases h
theorem rp_get2 {tx : TE} {fx : FP} (ha : RV c W ta fa) (hb : RV c W tb fb) (hx : RP c W tx fx) : RP c W (tMGet2 c.W.w ta tb tx) (fGet2 fa fb fx) := fun σ H C env T s Q q x nb =>
  ha σ H C env T s _ (fun d1 v1 H1 C1 F1 e1 s1 k1 t1 r1 => by
    unfold fGet2 at q x nb
    rw [e1, O.bind_ok] at q x nb
    by_cases hd : isDct d1 = true
    · rw [if_pos hd] at q x nb
      obtain ⟨a, rfl, hD⟩ := r1.isD s1.w.sub hd
      refine ⟨a, rfl, hD, ?_⟩
      refine hb σ H1 C1 env T s1 _ (fun d2 v2 H2 C2 F2 e2 s2 k2 t2 r2 => ?_) (fun y cl dx H' C' e2 s2 k2 t2 => x y cl dx H' C' (by rw [e2]; rfl) s2 (k1.trans k2) (t1.trans t2)) (fun e2 => nb (by rw [e2]; rfl))
      rw [e2, O.bind_ok] at q x nb
      refine hx σ H2 C2 env T s2 _ (fun d3 v3 H3 C3 e3 s3 k3 t3 => ?_) (fun y cl dx H' C' e3 s3 k3 t3 => x y cl dx H' C' (by rw [e3]; rfl) s3 ((k1.trans k2).trans k3) ((t1.trans t2).trans t3)) (fun e3 => nb (by rw [e3]; rfl))
      rw [e3, O.bind_ok] at q x nb
      have r1' := (r1.keep k2 t2).keep k3 t3
      have r2' := r2.keep k3 t3
      cases eg : gGet2 d1 d2 d3 with
      | none => exact absurd (by rw [eg]; rfl) nb
      | some d =>
        cases d1 with
        | dct o t ks ds =>
          obtain ⟨k, h1, h2⟩ := Option.bind_eq_some_iff.mp (show (keyOf d2).bind _ = some d from eg)
          by_cases ht : kindK k = t ∧ clos ds = true
          · rw [if_pos ht] at h2
            obtain ⟨a', ov, ev, g, _, h3⟩ := r1'.dget s3.w.sub r2' h1 ht.1
            cases ev
            refine ⟨ov, .inl g, ?_⟩
            rcases h3 with ⟨z1, z2⟩ | ⟨u, d', G, z1, z2, z3, z4⟩
            · rw [z2] at h2; cases h2
              subst z1
              exact q _ _ H3 C3 (by rw [eg]; rfl) s3 ((k1.trans k2).trans k3) ((t1.trans t2).trans t3)
            · rw [z2] at h2; cases h2
              subst z1
              have hc : clo d' = true := clos_all.mp ht.2 d' z4
              exact q _ _ H3 C3 (by rw [eg]; rfl) (s3.tail.push (z3.c hc (Same.refl _))) ((k1.trans k2).trans k3) ((t1.trans t2).trans t3)
          · rw [if_neg ht] at h2; cases h2
        | mix o ks ds =>
          obtain ⟨k, h1, h2⟩ := Option.bind_eq_some_iff.mp (show (nkOf d2).bind _ = some d from eg)
          by_cases ht : k.ok = true ∧ clos ds = true
          · rw [if_pos ht] at h2
            obtain ⟨a', ov, ev, g, _, h3⟩ := r1'.mget s3.w.sub r2' h1 ht.1
            cases ev
            refine ⟨ov, .inr g, ?_⟩
            rcases h3 with ⟨z1, z2⟩ | ⟨u, d', G, z1, z2, z3, z4⟩
            · rw [z2] at h2; cases h2
              subst z1
              exact q _ _ H3 C3 (by rw [eg]; rfl) s3 ((k1.trans k2).trans k3) ((t1.trans t2).trans t3)
            · rw [z2] at h2; cases h2
              subst z1
              have hc : clo d' = true := clos_all.mp ht.2 d' z4
              exact q _ _ H3 C3 (by rw [eg]; rfl) (s3.tail.push (z3.c hc (Same.refl _))) ((k1.trans k2).trans k3) ((t1.trans t2).trans t3)
          · rw [if_neg ht] at h2; cases h2
        | _ => cases hd
    · exact absurd (by rw [if_neg hd]) nb)
  (fun y cl dx H' C' e1 => x y cl dx H' C' (by unfold fGet2; rw [e1]; rfl)) (fun e1 => nb (by unfold fGet2; rw [e1]; rfl))
theorem rp_dnewK : RP c W tDNewK (fC (.dct true 0 [] [])) := fun σ H C env T s Q q x nb => fun p hp => q _ _ _ C rfl ⟨s.e, s.w.mkOwn (X := []) hp fun G g => by
  cases g
  exact .dio (.inl ⟨rfl, [], upd_same, rfl, rfl⟩) .nil⟩ (Same.refl _) (same_upd hp)
theorem rp_dnewM : RP c W (tDNewM c.W.w) (fC (.mix true [] [])) := fun σ H C env T s Q q x nb => fun p hp => q _ _ _ C rfl ⟨s.e, s.w.mkOwn (X := []) hp fun G g => by
  cases g
  exact .mio (kvs := []) upd_same ⟨fun q h => by simp at h, List.nodup_nil⟩ .nil⟩ (Same.refl _) (same_upd hp)
end
/-! ### o[i] = e -/
def rSetM (w : World) : TSet := fun o i v H Q => ∃ a H', o = .ref a ∧ MPut w H a i v H' ∧ Q H'
def uSet (W : Wp) : TSet := fun o i v H Q => rSetL o i v H Q ∨ (rSetD o i v H Q ∨ rSetM W.w o i v H Q)
theorem set_uSet {X : Cx} {cl : Str → Option Addr} (hu : X.A.units + 9 < cLine) : PSet X (uSet ⟨X.K, cl, X.w⟩) := fun pins s σ H o i v ov iv u Q I ro ri rv h => by
  rcases h with h | h | ⟨a, H', eo, g, q⟩
  · exact set_list pins s σ H o i v ov iv u Q I ro ri rv h
  · exact set_dict (by omega) pins s σ H o i v ov iv u Q I ro ri rv h
  · subst eo
    cases (show ov = Value.ref a from ro)
    exact m_setItem hu I g ri rv fun s' I' => ⟨H', I', q⟩
/-- the thing at a place of an open thing is replaced by a closed one -/
def gStore (d i e : D) : Option D := match d, i with
  | .lst true ds, .int n => if clo e = true then (ixN ds.length n).map fun j => .lst true (ds.set j e) else none
  | .dct true t ks ds, k => (keyOf k).bind fun kk => @ite _ (kindK kk = t ∧ clos ds = true ∧ clo e = true ∧ ks.length < 16777216) (Classical.propDecidable _) (some (.dct true t (putKs ks kk) (putDs ks ds kk e))) none
  | .mix true ks ds, k => (nkOf k).bind fun kk => @ite _ (kk.ok = true ∧ clos ds = true ∧ clo e = true ∧ ks.length < 16777216) (Classical.propDecidable _) (some (.mix true (putKs ks kk) (putDs ks ds kk e))) none
  | _, _ => none
def fStore (j : Nat) (fi fe : FP) : FS := fun env => (fe env).st env fun e => match env[j]? with
  | some (.own d) => (fi env).st env fun i => match gStore d i e with
    | some d' => .nx (env.set j (.own d'))
    | none => .bad
  | _ => .bad
section
variable {c : Cn} {W : WX} {te ti : TE} {fe fi : FP}
theorem RpFs.set {W : Wp} {C H : Hp} {v : V} {d : D} (r : RpF W C H v d []) : ∀ {vs : List V} {ds : List D} {F : List Addr} (i : Nat), RpFs W C H vs ds F → ∃ F', RpFs W C H (vs.set i v) (ds.set i d) F' ∧ F'.Sublist F
  | _, _, _, _, .nil => ⟨[], .nil, .refl _⟩
  | _, _, _, 0, .cons _ t => ⟨_, .cons r t, List.sublist_append_right _ _⟩
  | _, _, _, i + 1, .cons q t => by
    obtain ⟨F', a, b⟩ := RpFs.set r i t
    exact ⟨_, .cons q a, List.Sublist.append (.refl _) b⟩
theorem Stt.mut {C H : Hp} {σ : L2.St} {env : Env} {T : List Ent} {i : Nat} {p : Addr} {d d' : D} {o' : HO} (s : Stt c C σ H env T) (h : env[i]? = some (.own d)) (hv : σ[i]? = some (some (.ref p)))
    (hr : ∀ F, RpF c.W C H (.ref p) d F → F.Nodup → ∃ F', RpF c.W C (upd H p o') (.ref p) d' F' ∧ F'.Nodup ∧ p ∈ F ∧ ∀ a ∈ F', a ∈ F) : Stt c C σ (upd H p o') (env.set i (.own d')) T := by
  obtain ⟨v', hv', s1⟩ := s.move h
  have ev : v' = .ref p := by rw [hv] at hv'; exact (Option.some.inj (Option.some.inj hv')).symm
  subst ev
  refine Stt.back ⟨s1.e, Wld.mut (X := []) (d := d) s1.w fun F G r1 rX nd => ?_⟩ hv
  cases rX
  rw [List.append_nil] at nd ⊢
  exact hr F r1 nd
theorem RpF.mixF {W : Wp} {C H : Hp} {p : Addr} {ks : List NK} {ds : List D} {F : List Addr} (r : RpF W C H (.ref p) (.mix true ks ds) F) : p ∈ F := by
  cases r with
  | mio _ _ _ => simp
theorem uSet_ok {C H : Hp} {σ : L2.St} {env : Env} {T : List Ent} {j : Nat} {w iv v : V} {d di e d' : D} {F1 F2 : List Addr} {Q : Hp → Prop} (s : Stt c C σ H env T) (hj : env[j]? = some (.own d)) (hw : σ[j]? = some (some w))
    (ri : RpF c.W C H iv di F1) (rv : RpF c.W C H v e F2) (eg : gStore d di e = some d') (q : ∀ H', Stt c C σ H' (env.set j (.own d')) T → Q H') : uSet c.W w iv v H Q := by
  obtain ⟨w', F, hw', r⟩ := s.get (.inl hj)
  have ew : w' = w := by rw [hw] at hw'; exact (Option.some.inj (Option.some.inj hw')).symm
  subst ew
  unfold gStore at eg
  split at eg
  · rename_i ds n
    by_cases hc : clo e = true
    · rw [if_pos hc] at eg
      obtain ⟨k, h1, h2⟩ := Option.map_eq_some_iff.mp eg
      subst h2
      cases ri
      have rc := rv.c hc (Same.refl C) (H' := H)
      have r' := r
      cases r' with
      | own ep a =>
        rename_i p xs F0
        refine .inl ⟨p, xs, n, k, rfl, rfl, ep, by rw [a.length]; exact h1, q _ (s.mut hj hw fun F r1 nd => ?_)⟩
        cases r1 with
        | own e' a' =>
          rename_i ys F3
          have : xs = ys := by
            rw [ep] at e'
            have := Option.some.inj e'
            injection this
          subst this
          obtain ⟨F', g1, g2⟩ := RpFs.set rc k a'
          have nd' := List.nodup_cons.mp nd
          exact ⟨p :: F', .own upd_same (RpFs.mono (Same.refl _) (fun b hb => upd_ne fun z => nd'.1 (z ▸ g2.subset hb)) g1), List.nodup_cons.mpr ⟨fun z => nd'.1 (g2.subset z), g2.nodup nd'.2⟩, by simp, fun b hb => (g2.cons_cons p).subset hb⟩
    · rw [if_neg hc] at eg; cases eg
  · rename_i k t ks ds
    obtain ⟨kk, h1, h2⟩ := Option.bind_eq_some_iff.mp eg
    by_cases hc : kindK kk = t ∧ clos ds = true ∧ clo e = true ∧ ks.length < 16777216
    · rw [if_pos hc] at h2
      cases h2
      obtain ⟨ht, hcl, hce, hlen⟩ := hc
      have rc := rv.c hce (Same.refl C) (H' := H)
      have r' := r
      cases r' with
      | dio hd a =>
        rename_i p xs F0
        have done : ∀ (o' : HO) (ys : List V), (∀ H', H' p = some o' → DicAt H' t p (putKs ks kk) ys) → RpFs c.W C H ys (putDs ks ds kk e) [] → Q (upd H p o') := fun o' ys hd' ra' => q _ (s.mut hj hw fun F r1 nd => ⟨[p], .dio (F := []) (hd' _ upd_same) (ra'.mono (Same.refl _) fun b hb => by simp at hb), by simp, by
          cases r1
          simp, fun b hb => by
          cases r1
          simp at hb
          simp [hb]⟩)
        have ac := a.c hcl (Same.refl C) (H' := H)
        rcases hd with ⟨et, kvs, e1, e2, e3⟩ | ⟨et, kvs, e1, e2, e3⟩
        · subst e2 e3
          rcases key_v ri s.w.sub h1 with ⟨y, rfl, ex⟩ | ⟨ys, b, rfl, _, _⟩
          · subst ex
            obtain ⟨g1, g2⟩ := put_rel kInj (k := y) rc ac
            refine .inr (.inl ⟨p, _, rfl, DPut.k e1 (by have h := hlen; rw [List.length_map] at h; exact h), done _ _ (fun H' e' => .inl ⟨et, _, e', g1.symm, rfl⟩) g2⟩)
          · rw [et] at ht; cases ht
        · subst e2 e3
          rcases key_v ri s.w.sub h1 with ⟨y, rfl, ex⟩ | ⟨ys, b, rfl, ex, hb⟩
          · rw [et] at ht; cases ht
          · subst ex
            obtain ⟨g1, g2⟩ := put_rel tInj (k := ys) rc ac
            refine .inr (.inl ⟨p, _, rfl, DPut.t e1 hb (by have h := hlen; rw [List.length_map] at h; exact h), done _ _ (fun H' e' => .inr ⟨et, _, e', g1.symm, rfl⟩) g2⟩)
    · rw [if_neg hc] at h2; cases h2
  · rename_i k ks ds
    obtain ⟨kk, h1, h2⟩ := Option.bind_eq_some_iff.mp eg
    by_cases hc : kk.ok = true ∧ clos ds = true ∧ clo e = true ∧ ks.length < 16777216
    · rw [if_pos hc] at h2
      cases h2
      obtain ⟨ht, hcl, hce, hlen⟩ := hc
      have rc := rv.c hce (Same.refl C) (H' := H)
      have r' := r
      have sm : ∀ a ys, C a = some (.tup ys) → H a = some (.tup ys) := fun a ys e => s.w.sub a _ e
      generalize hks : ks = ks0 at *
      cases r' with
      | mio e1 hkv a =>
        rename_i p kvs F0
        have ac := a.c hcl (Same.refl C) (H' := H)
        have ek := nk_v ri h1
        obtain ⟨g1, g2⟩ := put_rel (κ' := NK) (g := id) (fun _ _ e => e) (k := kk) rc (kvs := kvM kvs) (by rw [kvM_2]; exact ac)
        rw [kvM_1, ← putM_eq kvs kk iv v, kvM_1] at g1
        rw [kvM_1, ← putM_eq kvs kk iv v, kvM_2] at g2
        have nk : KeysV C (putM kvs kk iv v) := by
          have hv := valM_eq kvs kk
          unfold putM
          split
          · refine ⟨fun q hq => ?_, ?_⟩
            · obtain ⟨q', hq', rfl⟩ := List.mem_map.mp hq
              have z := hkv.all q' hq'
              split <;> exact z
            · rw [List.map_map]
              have : (kvs.map ((·.1) ∘ fun q : MRow => if q.1 = kk then (q.1, q.2.1, v) else q)) = kvs.map (·.1) := List.map_congr_left fun q _ => by
                show (if q.1 = kk then (q.1, q.2.1, v) else q).1 = q.1
                split <;> rfl
              rw [this]; exact hkv.nd
          · rename_i hn
            refine ⟨fun q hq => ?_, ?_⟩
            · rcases List.mem_append.mp hq with z | z
              · exact hkv.all q z
              · rw [List.mem_singleton.mp z]; exact ⟨ek, ht⟩
            · rw [List.map_append, List.nodup_append]
              refine ⟨hkv.nd, by simp, fun x hx y hy z => hn ?_⟩
              have ey : y = kk := by simpa using hy
              obtain ⟨q, hq, eq⟩ := List.mem_map.mp hx
              unfold valM
              rw [Option.isSome_map, List.find?_isSome]
              exact ⟨q, hq, decide_eq_true (by rw [eq, z, ey])⟩
        refine .inr (.inr ⟨p, _, rfl, ⟨kvs, kk, e1, hkv.mono sm, ek.mono sm, ht, by have h := hlen; rw [List.length_map] at h; exact h, rfl⟩, q _ (s.mut hj hw fun F r1 nd => ⟨[p], ?_, by simp, r1.mixF, fun b hb => by
          rw [List.mem_singleton.mp hb]
          exact r1.mixF⟩)⟩)
        have g1 : (putM kvs kk iv v).map (·.1) = putKs (kvs.map (·.1)) kk := g1
        rw [← g1]
        exact .mio (F := []) upd_same nk (g2.mono (Same.refl _) fun b hb => by simp at hb)
    · rw [if_neg hc] at h2; cases h2
  · cases eg
theorem rs_store {j : Nat} (he : RV c W te fe) (hi : RV c W ti fi) : RS c W (tAsg te (gSub (tVar j) ti (uSet c.W))) (fStore j fi fe) := fun σ H C env T dn s n r b t x nb =>
  he σ H C env T s _ (fun e v H1 C1 F1 e1 s1 k1 t1 r1 => by
      unfold fStore at n x nb
      rw [e1, O.st_ok] at n x nb
      cases hj : env[j]? with
      | none => exact absurd (by rw [hj]) nb
      | some z =>
        cases z with
        | no => exact absurd (by rw [hj]) nb
        | bor d => exact absurd (by rw [hj]) nb
        | pin => exact absurd (by rw [hj]) nb
        | io d => exact absurd (by rw [hj]) nb
        | own d =>
          rw [hj] at n x nb
          dsimp only at n x nb
          obtain ⟨w, hw⟩ := s1.e.own j d hj
          refine ⟨w, hw, hi σ H1 C1 env T s1 _ (fun di vi H3 C3 F3 e3 s3 k3 t3 r3 => ?_) (fun y cl dx H' C' e3 s3 k3 t3 xr => x y env cl dx σ H' C' (by rw [e3]; rfl) s3 (k1.trans k3) xr) (fun e3 => nb (by rw [e3]; rfl))⟩
          rw [e3, O.st_ok] at n nb
          cases eg : gStore d di e with
          | none => exact absurd (by rw [eg]) nb
          | some d' =>
            rw [eg] at n
            exact uSet_ok s3 hj hw r3 (r1.keep k3 t3) eg fun H' s' => n _ σ H' C3 rfl s' (k1.trans k3))
    (fun y cl dx H' C' e1 s1 k1 t1 => x y env cl dx σ H' C' (by unfold fStore; rw [e1]; rfl) s1 k1) (fun e1 => nb (by unfold fStore; rw [e1]; rfl))
end
end
end CV
namespace CV
noncomputable section
open PySem L2
open PyProof.Rows (envOfC)
theorem units65 {k : Nat} {A : Around} (r : Room k A) : A.units + 65 < cLine := by have := r.un; omega
theorem units9 {k : Nat} {A : Around} (r : Room k A) : A.units + 9 < cLine := by have := r.un; omega
def fBool (a : FP) : FP := fun e => (a e).bind fun x => match x with | .bl b => .ok (.bl b) | _ => .bad
def fNeg (a : FP) : FP := fun env => (a env).bind fun x => match x with
  | .int i => .ok (.int (-i))
  | _ => .bad
section
variable {c : Cn} {W : WX} {te ta tb : TE} {fe fa fb : FP}
theorem rp_neg (ha : RV c W ta fa) : RP c W (tUn (rU fun i => .int (-i)) ta) (fNeg fa) := fun σ H C env T s Q q x nb =>
  ha σ H C env T s _ (fun d1 v1 H1 C1 F1 e1 s1 k1 t1 r1 => by
    unfold fNeg at q x nb
    rw [e1, O.bind_ok] at q x nb
    cases r1 with
    | int i => exact ⟨i, rfl, q _ _ H1 C1 rfl (s1.push (.int _)) k1 t1⟩
    | _ => exact absurd rfl nb)
  (fun y cl dx H' C' e1 => x y cl dx H' C' (by unfold fNeg; rw [e1]; rfl)) (fun e1 => nb (by unfold fNeg; rw [e1]; rfl))
end
section
variable {P : Program} {w : World} {K : Fg} {mg : Str → Option Value} {base : Heap}
theorem fnP {x : Str} {st : Stmt} {N ps : List Str} {k : Nat} {Wp : Wp} {fs : FS} {f : Addr} {fd : FuncData} (F : Fun K x x st f fd) (S : FnScope N ps (defScope st))
    (hn : ps.length ≤ N.length) (t : WX → TS)
    (hb : ∀ (cdv : Value) (A : Around) (outer : List PySem.Env) (s : Shared) (H : Hp) (E : XK) (f : Addr), Room k (A.deeper (envOfC x (defScope st) s.heap.objs.size f cdv)) → PSs (cxOf (L2.CX P w) P w K mg base N x (defScope st) f cdv A outer s H E) (defBody st) (t (WD E)))
    (hr : ∀ (c : Cn) (W : WX), c.W = Wp → RS c W (t W) fs) : FnOk P w K mg base (L2.CX P w) (k + 1) f fd ps (spP Wp (fDef ps.length N.length fs)) :=
  F.okX S len_P fun cdv A outer s H vs Q E hR h => ⟨t (WD E), hb cdv A outer s H E f hR, body_P hr hn vs H Q E h⟩
end
end
end CV
namespace CV
noncomputable section
open PySem L2
/-! ### loops whose dead names are forgotten at each turn -/
def R.wipe (l : List Nat) : R → R
  | .nx e => .nx (wipeE e l)
  | .cnt e => .cnt (wipeE e l)
  | .brk e => .brk (wipeE e l)
  | r => r
@[simp] theorem R.wipe_nx (l e) : R.wipe l (.nx e) = .nx (wipeE e l) := rfl
@[simp] theorem R.wipe_cnt (l e) : R.wipe l (.cnt e) = .cnt (wipeE e l) := rfl
@[simp] theorem R.wipe_brk (l e) : R.wipe l (.brk e) = .brk (wipeE e l) := rfl
@[simp] theorem R.wipe_ret (l d e) : R.wipe l (.ret d e) = .ret d e := rfl
@[simp] theorem R.wipe_exc (l x e) : R.wipe l (.exc x e) = .exc x e := rfl
@[simp] theorem R.wipe_bad (l) : R.wipe l .bad = .bad := rfl
def fWipe (l : List Nat) (fb : FS) : FS := fun env => R.wipe l (fb env)
def fPre (l : List Nat) (fb : FS) : FS := fun env => fb (wipeE env l)
section
variable {c : Cn} {W : WX} {ts : TS} {fs : FS}
theorem Stt.forgets {C H : Hp} {σ : L2.St} {env : Env} {T : List Ent} (s : Stt c C σ H env T) : ∀ l : List Nat, Stt c C σ H (wipeE env l) T
  | [] => s
  | _ :: l => (s.forgets l).forget
theorem rs_wipe {l : List Nat} (h : RS c W ts fs) : RS c W ts (fWipe l fs) := fun σ H C env T dn s n r b t x nb =>
  h σ H C env T dn s (fun e σ' H' C' e1 s1 k1 => n _ σ' H' C' (by unfold fWipe; rw [e1]; rfl) (s1.forgets l) k1) (fun d e v σ' H' C' e1 => r d e v σ' H' C' (by unfold fWipe; rw [e1]; rfl))
    (fun e σ' H' C' e1 s1 k1 => b _ σ' H' C' (by unfold fWipe; rw [e1]; rfl) (s1.forgets l) k1) (fun e σ' H' C' e1 s1 k1 => t _ σ' H' C' (by unfold fWipe; rw [e1]; rfl) (s1.forgets l) k1)
    (fun y e cl dx σ' H' C' e1 => x y e cl dx σ' H' C' (by unfold fWipe; rw [e1]; rfl)) (fun e1 => nb (by unfold fWipe; rw [e1]; rfl))
theorem rs_pre {l : List Nat} (h : RS c W ts fs) : RS c W ts (fPre l fs) := fun σ H C env T dn s n r b t x nb =>
  h σ H C (wipeE env l) T dn (s.forgets l) n r b t x nb
end
/-! ### loops, plainly -/
theorem loopF_idx {fg : FG} {fb : FS} (I : Nat → Env) : ∀ (ds : List D) (k : Nat), (∀ i d, ds[i]? = some d → ∃ e, fg d (I (k + i)) = some e ∧ (fb e = .nx (I (k + i + 1)) ∨ fb e = .cnt (I (k + i + 1)))) → loopF fg fb ds (I k) = .nx (I (k + ds.length))
  | [], k, h => rfl
  | d :: ds, k, h => by
    obtain ⟨e, h1, h2⟩ := h 0 d rfl
    have ih := loopF_idx I ds (k + 1) fun i d e => by
      have := h (i + 1) d (by simpa using e)
      rw [show k + (i + 1) = k + 1 + i by omega] at this
      exact this
    rw [loopF_cons, show I k = I (k + 0) from rfl, h1]
    have el : k + (d :: ds).length = k + 1 + ds.length := by rw [List.length_cons]; omega
    rw [el]
    rcases h2 with h2 | h2
    · dsimp only; rw [h2]; exact ih
    · dsimp only; rw [h2]; exact ih
/-- every turn goes on -/
theorem loopF_go {fg : FG} {fb : FS} (I : Nat → Env) {ds : List D} {env : Env} {r : Env} (h0 : env = I 0) (h : ∀ i d, ds[i]? = some d → ∃ e, fg d (I i) = some e ∧ (fb e = .nx (I (i + 1)) ∨ fb e = .cnt (I (i + 1)))) (hr : I ds.length = r) : loopF fg fb ds env = .nx r := by
  subst h0 hr
  have := loopF_idx (fg := fg) (fb := fb) I ds 0 (by simpa using h)
  simpa using this
theorem lcF_map {α : Type} {fg : FG} {ft : FT} {fe : FP} {env : Env} {g : α → D} {f : α → D} {xs : List α} (h : ∀ x ∈ xs, ∃ e, fg (g x) env = some e ∧ ft e = .ok true ∧ fe e = .ok (f x)) (hl : xs.length < 16777216) : lcF fg ft fe env (xs.map g) [] = .ok (.lst true (xs.map f)) := by
  have go : ∀ (xs : List α) (acc : List D), (∀ x ∈ xs, ∃ e, fg (g x) env = some e ∧ ft e = .ok true ∧ fe e = .ok (f x)) → acc.length + xs.length < 16777216 → lcF fg ft fe env (xs.map g) acc = .ok (.lst true (acc ++ xs.map f)) := fun xs => by
    induction xs with
    | nil => intro acc h hl; simp [lcF]
    | cons x xs ih =>
      intro acc h hl
      obtain ⟨e, h1, h2, h3⟩ := h x (by simp)
      rw [List.length_cons] at hl
      rw [List.map_cons, lcF_cons, h1]
      dsimp only
      rw [h2, O.nox_ok, O.bind_ok, if_pos rfl, h3, O.nox_ok, O.bind_ok, if_pos (by omega), ih _ (fun y hy => h y (by simp [hy])) (by rw [List.length_append]; simp; omega)]
      simp
  simpa using go xs [] h (by simpa using hl)
theorem lcF_filter {α : Type} {fg : FG} {ft : FT} {fe : FP} {env : Env} {g : α → D} {f : α → D} (p : α → Bool) {xs : List α} (h : ∀ x ∈ xs, ∃ e, fg (g x) env = some e ∧ ft e = .ok (p x) ∧ (p x = true → fe e = .ok (f x))) (hl : xs.length < 16777216) : lcF fg ft fe env (xs.map g) [] = .ok (.lst true ((xs.filter p).map f)) := by
  have go : ∀ (xs : List α) (acc : List D), (∀ x ∈ xs, ∃ e, fg (g x) env = some e ∧ ft e = .ok (p x) ∧ (p x = true → fe e = .ok (f x))) → acc.length + xs.length < 16777216 → lcF fg ft fe env (xs.map g) acc = .ok (.lst true (acc ++ (xs.filter p).map f)) := fun xs => by
    induction xs with
    | nil => intro acc h hl; simp [lcF]
    | cons x xs ih =>
      intro acc h hl
      obtain ⟨e, h1, h2, h3⟩ := h x (by simp)
      rw [List.length_cons] at hl
      rw [List.map_cons, lcF_cons, h1]
      dsimp only
      rw [h2, O.nox_ok, O.bind_ok, List.filter_cons]
      by_cases hp : p x = true
      · rw [if_pos hp, h3 hp, O.nox_ok, O.bind_ok, if_pos (by omega), ih _ (fun y hy => h y (by simp [hy])) (by rw [List.length_append]; simp; omega)]
        simp [hp]
      · rw [if_neg hp, ih _ (fun y hy => h y (by simp [hy])) (by omega)]
        simp [hp]
  simpa using go xs [] h (by simpa using hl)
/-! ### == of plain data -/
mutual
/-- plain data, at most n deep -/
def sh : Nat → D → Bool
  | _, .non => true
  | _, .bl _ => true
  | _, .int _ => true
  | _, .str l => l.all (· < 1114112)
  | n + 1, .tup ds => shs n ds
  | n + 1, .lst _ ds => shs n ds
  | n + 1, .ro ds => shs n ds
  | _, _ => false
def shs : Nat → List D → Bool
  | _, [] => true
  | n, d :: ds => sh n d && shs n ds
end
mutual
theorem sh_ok : ∀ {n : Nat} {d : D}, sh n d = true → plain d = true ∧ (toP d).canLay0 = true ∧ (toP d).depth ≤ n
  | n, .non, h => by simp [plain, toP, PyData.canLay0, PyData.depth]
  | n, .bl _, h => by simp [plain, toP, PyData.canLay0, PyData.depth]
  | n, .int _, h => by simp [plain, toP, PyData.canLay0, PyData.depth]
  | n, .str l, h => by
    have h' : l.all (· < 1114112) = true := by cases n <;> simpa [sh] using h
    refine ⟨by simp [plain], ?_, by simp [toP, PyData.depth]⟩
    simp only [toP, PyData.canLay0]
    show (S l).cps.all (· < 0x110000) = true
    simpa [S] using h'
  | 0, .tup ds, h => by simp [sh] at h
  | n + 1, .tup ds, h => by
    obtain ⟨a, b, c⟩ := shs_ok (n := n) (ds := ds) (by simpa [sh] using h)
    exact ⟨by simpa [plain] using a, by simpa [toP, PyData.canLay0] using b, by simp only [toP, PyData.depth]; omega⟩
  | 0, .lst _ ds, h => by simp [sh] at h
  | n + 1, .lst _ ds, h => by
    obtain ⟨a, b, c⟩ := shs_ok (n := n) (ds := ds) (by simpa [sh] using h)
    exact ⟨by simpa [plain] using a, by simpa [toP, PyData.canLay0] using b, by simp only [toP, PyData.depth]; omega⟩
  | 0, .ro ds, h => by simp [sh] at h
  | n + 1, .ro ds, h => by
    obtain ⟨a, b, c⟩ := shs_ok (n := n) (ds := ds) (by simpa [sh] using h)
    exact ⟨by simpa [plain] using a, by simpa [toP, PyData.canLay0] using b, by simp only [toP, PyData.depth]; omega⟩
  | n, .dct _ _ _ _, h => by cases n <;> simp [sh] at h
  | n, .ins _ _ _ _, h => by cases n <;> simp [sh] at h
  | n, .xc _ _ _, h => by cases n <;> simp [sh] at h
  | n, .mix _ _ _, h => by cases n <;> simp [sh] at h
theorem shs_ok : ∀ {n : Nat} {ds : List D}, shs n ds = true → plains ds = true ∧ PyData.canLayAll0 (toPs ds) = true ∧ PyData.depthAll (toPs ds) ≤ n
  | n, [], h => by simp [plains, toPs, PyData.canLayAll0, PyData.depthAll]
  | n, d :: ds, h => by
    have h' := h
    simp only [shs, Bool.and_eq_true] at h'
    obtain ⟨a, b, c⟩ := sh_ok h'.1
    obtain ⟨a2, b2, c2⟩ := shs_ok h'.2
    exact ⟨by simp [plains, a, a2], by simp [toPs, PyData.canLayAll0, b, b2], by simp only [toPs, PyData.depthAll]; omega⟩
end
theorem shO_of {d : D} (n : Nat) (h : sh n d = true) (hn : n ≤ 64 := by decide) : shO d = true := by
  obtain ⟨a, b, c⟩ := sh_ok h
  unfold shO SeqAt.shaped
  rw [a, b]
  simp
  omega
theorem shs_all {n : Nat} {ds : List D} : shs n ds = true ↔ ∀ d ∈ ds, sh n d = true := by
  induction ds with
  | nil => simp [shs]
  | cons d ds ih => simp [shs, ih]
theorem shs_map {α : Type} {n : Nat} {f : α → D} {l : List α} (h : ∀ a ∈ l, sh n (f a) = true) : shs n (l.map f) = true := by
  rw [shs_all]
  intro d hd
  obtain ⟨a, ha, e⟩ := List.mem_map.mp hd
  rw [← e]; exact h a ha
theorem gEq_of {d e : D} (h1 : shO d = true) (h2 : shO e = true) : gEq d e = some (.bl (deq d e)) := by
  unfold gEq; rw [h1, h2]; rfl
theorem gNe_of {d e : D} (h1 : shO d = true) (h2 : shO e = true) : gNe d e = some (.bl (!deq d e)) := by
  unfold gNe; rw [h1, h2]; rfl
@[simp] theorem shO_int (i : Int) : shO (.int i) = true := shO_of 0 (by simp [sh])
@[simp] theorem shO_bl (i : Bool) : shO (.bl i) = true := shO_of 0 (by simp [sh])
@[simp] theorem shO_non : shO .non = true := shO_of 0 (by simp [sh])
@[simp] theorem gEq_int (i j : Int) : gEq (.int i) (.int j) = some (.bl (decide (i = j))) := by
  rw [gEq_of (shO_int _) (shO_int _)]
  congr 2
@[simp] theorem gNe_int (i j : Int) : gNe (.int i) (.int j) = some (.bl (!decide (i = j))) := by
  rw [gNe_of (shO_int _) (shO_int _)]
  congr 3
@[simp] theorem deq_int (i j : Int) : deq (.int i) (.int j) = decide (i = j) := by
  simp only [deq, toP, PyData.eqv]
  exact Bool.beq_eq_decide_eq _ _
@[simp] theorem deq_bl (i j : Bool) : deq (.bl i) (.bl j) = decide (i = j) := by
  simp only [deq, toP, PyData.eqv]
  exact Bool.beq_eq_decide_eq _ _
@[simp] theorem deq_str (l m : List Nat) : deq (.str l) (.str m) = decide (l = m) := by
  simp only [deq, toP, PyData.eqv]
  rw [Bool.beq_eq_decide_eq]
  by_cases h : l = m
  · rw [h]; simp
  · rw [decide_eq_false h, decide_eq_false fun z => h (S_inj z)]
@[simp] theorem deq_tup (ds es : List D) : deq (.tup ds) (.tup es) = deqs ds es := by simp only [deq, deqs, toP, PyData.eqv]
@[simp] theorem deq_lst (o p) (ds es : List D) : deq (.lst o ds) (.lst p es) = deqs ds es := by simp only [deq, deqs, toP, PyData.eqv]
@[simp] theorem deqs_nil : deqs [] [] = true := by simp only [deqs, toPs, PyData.eqvAll]
@[simp] theorem deqs_cons (d e : D) (ds es : List D) : deqs (d :: ds) (e :: es) = (deq d e && deqs ds es) := by simp only [deq, deqs, toPs, PyData.eqvAll]
@[simp] theorem deqs_nc (e : D) (es : List D) : deqs [] (e :: es) = false := by simp only [deqs, toPs, PyData.eqvAll]
@[simp] theorem deqs_cn (d : D) (ds : List D) : deqs (d :: ds) [] = false := by simp only [deqs, toPs, PyData.eqvAll]
theorem deqs_map {α : Type} [DecidableEq α] {f : α → D} (hf : ∀ a b, deq (f a) (f b) = decide (a = b)) : ∀ xs ys : List α, deqs (xs.map f) (ys.map f) = decide (xs = ys)
  | [], [] => by simp
  | [], y :: ys => by simp
  | x :: xs, [] => by simp
  | x :: xs, y :: ys => by
    rw [List.map_cons, List.map_cons, deqs_cons, hf, deqs_map hf xs ys]
    simp
theorem frz_clo {d : D} (h : clo d = true) : frz d = d := by
  have go : (∀ d : D, clo d = true → frz d = d) ∧ (∀ ds : List D, clos ds = true → frzs ds = ds) := by
    constructor
    · intro d h
      exact frz_clo1 d h
    · intro ds h
      exact frz_clo2 ds h
  exact go.1 d h
where
  frz_clo1 : ∀ d : D, clo d = true → frz d = d
    | .non, _ => rfl
    | .bl _, _ => rfl
    | .int _, _ => rfl
    | .str _, _ => rfl
    | .tup ds, h => by simp only [frz]; rw [frz_clo2 ds (by simpa [clo] using h)]
    | .lst o ds, h => by
      have h' : o = false ∧ clos ds = true := by simpa [clo] using h
      simp only [frz]; rw [frz_clo2 ds h'.2, h'.1]
    | .ro ds, h => by simp only [frz]
    | .dct o t ks ds, h => by
      have h' : o = false ∧ clos ds = true := by simpa [clo] using h
      simp only [frz]; rw [frz_clo2 ds h'.2, h'.1]
    | .mix o ks ds, h => by
      have h' : o = false ∧ clos ds = true := by simpa [clo] using h
      simp only [frz]; rw [frz_clo2 ds h'.2, h'.1]
    | .ins o n ns ds, h => by
      have h' : o = false ∧ clos ds = true := by simpa [clo] using h
      simp only [frz]; rw [frz_clo2 ds h'.2, h'.1]
    | .xc n ns ds, h => by simp only [frz]
  frz_clo2 : ∀ ds : List D, clos ds = true → frzs ds = ds
    | [], _ => rfl
    | d :: ds, h => by
      have h' := h
      simp only [clos, Bool.and_eq_true] at h'
      simp only [frzs]; rw [frz_clo1 d h'.1, frz_clo2 ds h'.2]
theorem frzs_clos {ds : List D} (h : clos ds = true) : frzs ds = ds := frz_clo.frz_clo2 ds h
end
end CV
namespace CV
open PySem L2
/-! ### lemmas for reckoning -/
theorem atI_cast {α : Type} (l : List α) (k : Nat) : L2.atI l (k : Int) = l[k]? := by
  unfold L2.atI ixN
  rw [if_pos (by omega)]
  by_cases h : k < l.length
  · rw [if_pos (by omega)]; simp
  · rw [if_neg (by omega), List.getElem?_eq_none (by omega)]; rfl
theorem atI_0' {α : Type} (l : List α) : L2.atI l 0 = l[0]? := atI_cast l 0
theorem atI_1' {α : Type} (l : List α) : L2.atI l 1 = l[1]? := atI_cast l 1
theorem atI_2' {α : Type} (l : List α) : L2.atI l 2 = l[2]? := atI_cast l 2
theorem atI_3' {α : Type} (l : List α) : L2.atI l 3 = l[3]? := atI_cast l 3
@[simp] theorem gLen_tup (ds) : gLen [.tup ds] = some (.int (ds.length : Int)) := rfl
@[simp] theorem gLen_lst (o ds) : gLen [.lst o ds] = some (.int (ds.length : Int)) := rfl
@[simp] theorem gLen_ro (ds) : gLen [.ro ds] = some (.int (ds.length : Int)) := rfl
theorem gLen_str {l : List Nat} (h : l.length ≤ 16777216) : gLen [.str l] = some (.int (l.length : Int)) := if_pos h
@[simp] theorem gIx2_tup (ds i) : gIx2 (.tup ds) (.int i) = L2.atI ds i := rfl
@[simp] theorem gIx2_lst (o ds i) : gIx2 (.lst o ds) (.int i) = L2.atI ds i := rfl
@[simp] theorem gIx2_ro (ds i) : gIx2 (.ro ds) (.int i) = L2.atI ds i := rfl
theorem gIx2_str {l : List Nat} {i : Int} (h : l.length ≤ 16777216) : gIx2 (.str l) (.int i) = (L2.atI l i).map fun a => .str [a] := if_pos h
@[simp] theorem gAdd_int (i j) : gAdd (.int i) (.int j) = some (.int (i + j)) := rfl
theorem gAdd_str {l m : List Nat} (h : l.length + m.length ≤ 16777216) : gAdd (.str l) (.str m) = some (.str (l ++ m)) := if_pos h
theorem gAdd_lst {o p : Bool} {ds es : List D} (h1 : clos ds = true) (h2 : clos es = true) (h : ds.length + es.length ≤ 16777216) : gAdd (.lst o ds) (.lst p es) = some (.lst true (ds ++ es)) := if_pos ⟨by rw [h1, h2]; rfl, h⟩
theorem gMul_l {i j : Int} (h1 : -18446744073709551616 < i) (h2 : i < 18446744073709551616) : gMul (.int i) (.int j) = some (.int (i * j)) := if_pos (.inl ⟨h1, h2⟩)
theorem gMul_r {i j : Int} (h1 : -18446744073709551616 < j) (h2 : j < 18446744073709551616) : gMul (.int i) (.int j) = some (.int (i * j)) := if_pos (.inr ⟨h1, h2⟩)
theorem gDiv_int {i j : Int} (h1 : 0 < j) (h2 : j < 1073741824) : gDiv (.int i) (.int j) = some (.int (i / j)) := if_pos ⟨h1, h2⟩
theorem gMod_int {i j : Int} (h1 : 0 < j) : gMod (.int i) (.int j) = some (.int (i % j)) := if_pos h1
theorem itemsOf_lst {o : Bool} {ds : List D} (h : clos ds = true) : itemsOf (.lst o ds) = some ds := by
  show (if clos ds = true then some ds else none) = _
  rw [if_pos h]
@[simp] theorem itemsOf_str (l) : itemsOf (.str l) = some (signsOf l) := rfl
@[simp] theorem clos_strs (l : List (List Nat)) : clos (l.map D.str) = true := clos_map (fun _ => rfl) l
@[simp] theorem clos_ints (l : List Int) : clos (l.map D.int) = true := clos_map (fun _ => rfl) l
@[simp] theorem clos_bls (l : List Bool) : clos (l.map D.bl) = true := clos_map (fun _ => rfl) l
@[simp] theorem clos_signs (l : List Nat) : clos (signsOf l) = true := clos_map (fun _ => rfl) l
theorem gTup_ok {ds : List D} (h : ds.length ≤ 16777216) : gTup' ds = some (.tup ds) := if_pos h
theorem gLst_ok {ds : List D} (h : ds.length ≤ 16777216) : gLst' ds = some (.lst true ds) := if_pos h
theorem gIn2_sign (a : Nat) (l : List Nat) : gIn2 (.str [a]) (.str l) = some (.bl (decide (a ∈ l))) := rfl
theorem gNotIn2_sign (a : Nat) (l : List Nat) : gNotIn2 (.str [a]) (.str l) = some (.bl (!decide (a ∈ l))) := rfl
theorem gIs_non (d : D) : gIs d .non = some (.bl (isNon d)) := by cases d <;> rfl
theorem gIsNot_non (d : D) : gIsNot d .non = some (.bl (!isNon d)) := by cases d <;> rfl
end CV
namespace CV
open PySem L2
theorem gMul_l2 (i : Int) : gMul (.int 2) (.int i) = some (.int (2 * i)) := gMul_l (by decide) (by decide)
theorem gMul_r2 (i : Int) : gMul (.int i) (.int 2) = some (.int (i * 2)) := gMul_r (by decide) (by decide)
theorem gMul_l3 (i : Int) : gMul (.int 3) (.int i) = some (.int (3 * i)) := gMul_l (by decide) (by decide)
theorem gMul_l5 (i : Int) : gMul (.int 5) (.int i) = some (.int (5 * i)) := gMul_l (by decide) (by decide)
theorem gMul_r10 (i : Int) : gMul (.int i) (.int 10) = some (.int (i * 10)) := gMul_r (by decide) (by decide)
theorem gMul_r12 (i : Int) : gMul (.int i) (.int 12) = some (.int (i * 12)) := gMul_r (by decide) (by decide)
theorem gMul_r60 (i : Int) : gMul (.int i) (.int 60) = some (.int (i * 60)) := gMul_r (by decide) (by decide)
theorem gMul_r61 (i : Int) : gMul (.int i) (.int 61) = some (.int (i * 61)) := gMul_r (by decide) (by decide)
theorem gMul_r16807 (i : Int) : gMul (.int i) (.int 16807) = some (.int (i * 16807)) := gMul_r (by decide) (by decide)
theorem gMul_r39373 (i : Int) : gMul (.int i) (.int 39373) = some (.int (i * 39373)) := gMul_r (by decide) (by decide)
theorem gMul_r48271 (i : Int) : gMul (.int i) (.int 48271) = some (.int (i * 48271)) := gMul_r (by decide) (by decide)
theorem gMul_r69621 (i : Int) : gMul (.int i) (.int 69621) = some (.int (i * 69621)) := gMul_r (by decide) (by decide)
theorem gMul_r982451653 (i : Int) : gMul (.int i) (.int 982451653) = some (.int (i * 982451653)) := gMul_r (by decide) (by decide)
theorem gDiv_2 (i : Int) : gDiv (.int i) (.int 2) = some (.int (i / 2)) := gDiv_int (by decide) (by decide)
theorem gDiv_3 (i : Int) : gDiv (.int i) (.int 3) = some (.int (i / 3)) := gDiv_int (by decide) (by decide)
theorem gDiv_4 (i : Int) : gDiv (.int i) (.int 4) = some (.int (i / 4)) := gDiv_int (by decide) (by decide)
theorem gDiv_5 (i : Int) : gDiv (.int i) (.int 5) = some (.int (i / 5)) := gDiv_int (by decide) (by decide)
theorem gDiv_6 (i : Int) : gDiv (.int i) (.int 6) = some (.int (i / 6)) := gDiv_int (by decide) (by decide)
theorem gDiv_7 (i : Int) : gDiv (.int i) (.int 7) = some (.int (i / 7)) := gDiv_int (by decide) (by decide)
theorem gDiv_8 (i : Int) : gDiv (.int i) (.int 8) = some (.int (i / 8)) := gDiv_int (by decide) (by decide)
theorem gDiv_9 (i : Int) : gDiv (.int i) (.int 9) = some (.int (i / 9)) := gDiv_int (by decide) (by decide)
theorem gDiv_10 (i : Int) : gDiv (.int i) (.int 10) = some (.int (i / 10)) := gDiv_int (by decide) (by decide)
theorem gDiv_11 (i : Int) : gDiv (.int i) (.int 11) = some (.int (i / 11)) := gDiv_int (by decide) (by decide)
theorem gDiv_12 (i : Int) : gDiv (.int i) (.int 12) = some (.int (i / 12)) := gDiv_int (by decide) (by decide)
theorem gDiv_14 (i : Int) : gDiv (.int i) (.int 14) = some (.int (i / 14)) := gDiv_int (by decide) (by decide)
theorem gDiv_15 (i : Int) : gDiv (.int i) (.int 15) = some (.int (i / 15)) := gDiv_int (by decide) (by decide)
theorem gDiv_16 (i : Int) : gDiv (.int i) (.int 16) = some (.int (i / 16)) := gDiv_int (by decide) (by decide)
theorem gDiv_17 (i : Int) : gDiv (.int i) (.int 17) = some (.int (i / 17)) := gDiv_int (by decide) (by decide)
theorem gDiv_18 (i : Int) : gDiv (.int i) (.int 18) = some (.int (i / 18)) := gDiv_int (by decide) (by decide)
theorem gDiv_20 (i : Int) : gDiv (.int i) (.int 20) = some (.int (i / 20)) := gDiv_int (by decide) (by decide)
theorem gDiv_21 (i : Int) : gDiv (.int i) (.int 21) = some (.int (i / 21)) := gDiv_int (by decide) (by decide)
theorem gDiv_24 (i : Int) : gDiv (.int i) (.int 24) = some (.int (i / 24)) := gDiv_int (by decide) (by decide)
theorem gDiv_26 (i : Int) : gDiv (.int i) (.int 26) = some (.int (i / 26)) := gDiv_int (by decide) (by decide)
theorem gDiv_27 (i : Int) : gDiv (.int i) (.int 27) = some (.int (i / 27)) := gDiv_int (by decide) (by decide)
theorem gDiv_30 (i : Int) : gDiv (.int i) (.int 30) = some (.int (i / 30)) := gDiv_int (by decide) (by decide)
theorem gDiv_32 (i : Int) : gDiv (.int i) (.int 32) = some (.int (i / 32)) := gDiv_int (by decide) (by decide)
theorem gDiv_33 (i : Int) : gDiv (.int i) (.int 33) = some (.int (i / 33)) := gDiv_int (by decide) (by decide)
theorem gDiv_36 (i : Int) : gDiv (.int i) (.int 36) = some (.int (i / 36)) := gDiv_int (by decide) (by decide)
theorem gDiv_40 (i : Int) : gDiv (.int i) (.int 40) = some (.int (i / 40)) := gDiv_int (by decide) (by decide)
theorem gDiv_49 (i : Int) : gDiv (.int i) (.int 49) = some (.int (i / 49)) := gDiv_int (by decide) (by decide)
theorem gDiv_52 (i : Int) : gDiv (.int i) (.int 52) = some (.int (i / 52)) := gDiv_int (by decide) (by decide)
theorem gDiv_54 (i : Int) : gDiv (.int i) (.int 54) = some (.int (i / 54)) := gDiv_int (by decide) (by decide)
theorem gDiv_60 (i : Int) : gDiv (.int i) (.int 60) = some (.int (i / 60)) := gDiv_int (by decide) (by decide)
theorem gDiv_64 (i : Int) : gDiv (.int i) (.int 64) = some (.int (i / 64)) := gDiv_int (by decide) (by decide)
theorem gDiv_77 (i : Int) : gDiv (.int i) (.int 77) = some (.int (i / 77)) := gDiv_int (by decide) (by decide)
theorem gDiv_78 (i : Int) : gDiv (.int i) (.int 78) = some (.int (i / 78)) := gDiv_int (by decide) (by decide)
theorem gDiv_81 (i : Int) : gDiv (.int i) (.int 81) = some (.int (i / 81)) := gDiv_int (by decide) (by decide)
theorem gDiv_82 (i : Int) : gDiv (.int i) (.int 82) = some (.int (i / 82)) := gDiv_int (by decide) (by decide)
theorem gDiv_90 (i : Int) : gDiv (.int i) (.int 90) = some (.int (i / 90)) := gDiv_int (by decide) (by decide)
theorem gDiv_108 (i : Int) : gDiv (.int i) (.int 108) = some (.int (i / 108)) := gDiv_int (by decide) (by decide)
theorem gDiv_156 (i : Int) : gDiv (.int i) (.int 156) = some (.int (i / 156)) := gDiv_int (by decide) (by decide)
theorem gDiv_160 (i : Int) : gDiv (.int i) (.int 160) = some (.int (i / 160)) := gDiv_int (by decide) (by decide)
theorem gDiv_162 (i : Int) : gDiv (.int i) (.int 162) = some (.int (i / 162)) := gDiv_int (by decide) (by decide)
theorem gDiv_200 (i : Int) : gDiv (.int i) (.int 200) = some (.int (i / 200)) := gDiv_int (by decide) (by decide)
theorem gDiv_234 (i : Int) : gDiv (.int i) (.int 234) = some (.int (i / 234)) := gDiv_int (by decide) (by decide)
theorem gDiv_240 (i : Int) : gDiv (.int i) (.int 240) = some (.int (i / 240)) := gDiv_int (by decide) (by decide)
theorem gDiv_270 (i : Int) : gDiv (.int i) (.int 270) = some (.int (i / 270)) := gDiv_int (by decide) (by decide)
theorem gDiv_300 (i : Int) : gDiv (.int i) (.int 300) = some (.int (i / 300)) := gDiv_int (by decide) (by decide)
theorem gDiv_343 (i : Int) : gDiv (.int i) (.int 343) = some (.int (i / 343)) := gDiv_int (by decide) (by decide)
theorem gDiv_800 (i : Int) : gDiv (.int i) (.int 800) = some (.int (i / 800)) := gDiv_int (by decide) (by decide)
theorem gDiv_832 (i : Int) : gDiv (.int i) (.int 832) = some (.int (i / 832)) := gDiv_int (by decide) (by decide)
theorem gDiv_900 (i : Int) : gDiv (.int i) (.int 900) = some (.int (i / 900)) := gDiv_int (by decide) (by decide)
theorem gDiv_960 (i : Int) : gDiv (.int i) (.int 960) = some (.int (i / 960)) := gDiv_int (by decide) (by decide)
theorem gDiv_2400 (i : Int) : gDiv (.int i) (.int 2400) = some (.int (i / 2400)) := gDiv_int (by decide) (by decide)
theorem gDiv_2401 (i : Int) : gDiv (.int i) (.int 2401) = some (.int (i / 2401)) := gDiv_int (by decide) (by decide)
theorem gDiv_7000 (i : Int) : gDiv (.int i) (.int 7000) = some (.int (i / 7000)) := gDiv_int (by decide) (by decide)
theorem gDiv_7020 (i : Int) : gDiv (.int i) (.int 7020) = some (.int (i / 7020)) := gDiv_int (by decide) (by decide)
theorem gMod_2 (i : Int) : gMod (.int i) (.int 2) = some (.int (i % 2)) := gMod_int (by decide)
theorem gMod_3 (i : Int) : gMod (.int i) (.int 3) = some (.int (i % 3)) := gMod_int (by decide)
theorem gMod_4 (i : Int) : gMod (.int i) (.int 4) = some (.int (i % 4)) := gMod_int (by decide)
theorem gMod_5 (i : Int) : gMod (.int i) (.int 5) = some (.int (i % 5)) := gMod_int (by decide)
theorem gMod_6 (i : Int) : gMod (.int i) (.int 6) = some (.int (i % 6)) := gMod_int (by decide)
theorem gMod_7 (i : Int) : gMod (.int i) (.int 7) = some (.int (i % 7)) := gMod_int (by decide)
theorem gMod_8 (i : Int) : gMod (.int i) (.int 8) = some (.int (i % 8)) := gMod_int (by decide)
theorem gMod_9 (i : Int) : gMod (.int i) (.int 9) = some (.int (i % 9)) := gMod_int (by decide)
theorem gMod_10 (i : Int) : gMod (.int i) (.int 10) = some (.int (i % 10)) := gMod_int (by decide)
theorem gMod_11 (i : Int) : gMod (.int i) (.int 11) = some (.int (i % 11)) := gMod_int (by decide)
theorem gMod_12 (i : Int) : gMod (.int i) (.int 12) = some (.int (i % 12)) := gMod_int (by decide)
theorem gMod_16 (i : Int) : gMod (.int i) (.int 16) = some (.int (i % 16)) := gMod_int (by decide)
theorem gMod_17 (i : Int) : gMod (.int i) (.int 17) = some (.int (i % 17)) := gMod_int (by decide)
theorem gMod_19 (i : Int) : gMod (.int i) (.int 19) = some (.int (i % 19)) := gMod_int (by decide)
theorem gMod_24 (i : Int) : gMod (.int i) (.int 24) = some (.int (i % 24)) := gMod_int (by decide)
theorem gMod_25 (i : Int) : gMod (.int i) (.int 25) = some (.int (i % 25)) := gMod_int (by decide)
theorem gMod_26 (i : Int) : gMod (.int i) (.int 26) = some (.int (i % 26)) := gMod_int (by decide)
theorem gMod_28 (i : Int) : gMod (.int i) (.int 28) = some (.int (i % 28)) := gMod_int (by decide)
theorem gMod_30 (i : Int) : gMod (.int i) (.int 30) = some (.int (i % 30)) := gMod_int (by decide)
theorem gMod_32 (i : Int) : gMod (.int i) (.int 32) = some (.int (i % 32)) := gMod_int (by decide)
theorem gMod_40 (i : Int) : gMod (.int i) (.int 40) = some (.int (i % 40)) := gMod_int (by decide)
theorem gMod_60 (i : Int) : gMod (.int i) (.int 60) = some (.int (i % 60)) := gMod_int (by decide)
theorem gMod_64 (i : Int) : gMod (.int i) (.int 64) = some (.int (i % 64)) := gMod_int (by decide)
theorem gMod_81 (i : Int) : gMod (.int i) (.int 81) = some (.int (i % 81)) := gMod_int (by decide)
theorem gMod_900 (i : Int) : gMod (.int i) (.int 900) = some (.int (i % 900)) := gMod_int (by decide)
theorem gMod_1000 (i : Int) : gMod (.int i) (.int 1000) = some (.int (i % 1000)) := gMod_int (by decide)
theorem gMod_2147483587 (i : Int) : gMod (.int i) (.int 2147483587) = some (.int (i % 2147483587)) := gMod_int (by decide)
theorem gMod_2147483629 (i : Int) : gMod (.int i) (.int 2147483629) = some (.int (i % 2147483629)) := gMod_int (by decide)
theorem gMod_2147483646 (i : Int) : gMod (.int i) (.int 2147483646) = some (.int (i % 2147483646)) := gMod_int (by decide)
theorem gMod_2147483647 (i : Int) : gMod (.int i) (.int 2147483647) = some (.int (i % 2147483647)) := gMod_int (by decide)
end CV
namespace CV
open PySem L2
theorem fSeq_e (a b : FS) (env : Env) : fSeq a b env = (a env).seq b := rfl
theorem fNext_e (env : Env) : fNext env = .nx env := rfl
theorem fSet_e (i : Nat) (a : FP) (env : Env) : fSet i a env = (a env).st env fun d => .nx (env.set i (.own d)) := rfl
theorem fSetZ_e (i : Nat) (a : FP) (env : Env) : fSetZ i a env = (a env).st env fun d => .nx (env.set i (.own (frz d))) := rfl
theorem fDrop_e (a : FP) (env : Env) : fDrop a env = (a env).st env fun _ => .nx env := rfl
theorem fRet_e (a : FP) (env : Env) : fRet a env = (a env).st env fun d => .ret d env := rfl
theorem fRetV_e (i : Nat) (env : Env) : fRetV i env = (match env[i]? with | some (.own d) => .ret d (env.set i .no) | _ => .bad) := rfl
theorem fRetN_e (env : Env) : fRetN env = .ret .non env := rfl
theorem fIfS_e (t : FT) (a b : FS) (env : Env) : fIfS t a b env = (t env).st env fun c => if c = true then a env else b env := rfl
theorem fBreak_e (env : Env) : fBreak env = .brk env := rfl
theorem fCont_e (env : Env) : fCont env = .cnt env := rfl
theorem fMut0_e (g : List D → List D) (i : Nat) (env : Env) : fMut0 g i env = (match env[i]? with | some (.own (.lst true ds)) => .nx (env.set i (.own (.lst true (g ds)))) | _ => .bad) := rfl
theorem fStore_e (j : Nat) (fi fe : FP) (env : Env) : fStore j fi fe env = ((fe env).st env fun e => match env[j]? with
  | some (.own d) => (fi env).st env fun i => match gStore d i e with
    | some d' => .nx (env.set j (.own d'))
    | none => .bad
  | _ => .bad) := rfl
theorem fC_e (d : D) (env : Env) : fC d env = .ok d := rfl
theorem fVar_e (i : Nat) (env : Env) : fVar i env = (match env[i]? with | some (.own d) => .ok d | some (.bor d) => .ok d | some (.io d) => .ok d | _ => .bad) := rfl
theorem fVarB_e (i : Nat) (env : Env) : fVarB i env = (match env[i]? with | some (.own d) => if clo d = true then .ok d else .bad | some (.bor d) => .ok d | some (.io d) => if clo d = true then .ok d else .bad | _ => .bad) := rfl
theorem fClo_e (f : FP) (env : Env) : fClo f env = (f env).bind fun d => if clo d = true then .ok d else .bad := rfl
theorem fOp_e (g : D → D → Option D) (a b : FP) (env : Env) : fOp g a b env = (a env).bind fun x => (b env).bind fun y => .of (g x y) := rfl
theorem fAnd_e (a b : FP) (env : Env) : fAnd a b env = (a env).bind fun x => match x with | .bl true => b env | .bl false => .ok (.bl false) | _ => .bad := rfl
theorem fOr_e (a b : FP) (env : Env) : fOr a b env = (a env).bind fun x => match x with | .bl true => .ok (.bl true) | .bl false => b env | _ => .bad := rfl
theorem fNot_e (a : FP) (env : Env) : fNot a env = (a env).bind fun x => match x with | .bl b => .ok (.bl (!b)) | _ => .bad := rfl
theorem fIf_e (t : FT) (a b : FP) (env : Env) : fIf t a b env = (t env).bind fun x => if x = true then a env else b env := rfl
theorem fBool_e (a : FP) (env : Env) : fBool a env = (a env).bind fun x => match x with | .bl b => .ok (.bl b) | _ => .bad := rfl
theorem fNeg_e (a : FP) (env : Env) : fNeg a env = (a env).bind fun x => match x with | .int i => .ok (.int (-i)) | _ => .bad := rfl
theorem ftB_e (a : FP) (env : Env) : ftB a env = (a env).bind fun x => match x with | .bl b => .ok b | _ => .bad := rfl
theorem ftNot_e (a : FT) (env : Env) : ftNot a env = (a env).bind fun b => .ok (!b) := rfl
theorem ftAnd_e (a b : FT) (env : Env) : ftAnd a b env = (a env).bind fun x => if x = true then b env else .ok false := rfl
theorem ftOr_e (a b : FT) (env : Env) : ftOr a b env = (a env).bind fun x => if x = true then .ok true else b env := rfl
theorem ftYes_e (env : Env) : ftYes env = .ok true := rfl
theorem fNil_e (env : Env) : fNil env = .ok [] := rfl
theorem fCons_e (a : FP) (b : FA) (env : Env) : fCons a b env = (a env).bind fun d => (b env).bind fun ds => .ok (d :: ds) := rfl
theorem fApp_e (g : List D → Option D) (a : FA) (env : Env) : fApp g a env = (a env).bind fun ds => .of (g ds) := rfl
theorem fChain_e (g g' : D → D → Option D) (a b e : FP) (env : Env) : fChain g g' a b e env = (a env).bind fun x => (b env).bind fun y => (O.of (g x y)).bind fun z => match z with
  | .bl true => (e env).bind fun w => .of (g' y w)
  | .bl false => .ok (.bl false)
  | _ => .bad := rfl
theorem fCall_e (F : List D → O D) (a : FA) (env : Env) : fCall F a env = (a env).bind F := rfl
theorem fIsi_e (n : String) (a : FP) (env : Env) : fIsi n a env = (a env).bind fun x => .of (gIsi n x) := rfl
theorem fM1_e (g : D → D → Option D) (a b : FP) (env : Env) : fM1 g a b env = (a env).bind fun x => match x with | .str l => (b env).bind fun y => .of (g (.str l) y) | _ => .bad := rfl
theorem fM0_e (g : D → Option D) (a : FP) (env : Env) : fM0 g a env = (a env).bind fun x => .of (g x) := rfl
theorem fSl_e (a : FP) (lo hi : FO) (env : Env) : fSl a lo hi env = (a env).bind fun x => (lo env).bind fun l => (hi env).bind fun h => .of (gSl x l h) := rfl
theorem foN_e (env : Env) : foN env = .ok none := rfl
theorem foS_e (a : FP) (env : Env) : foS a env = (a env).bind fun x => match x with | .int i => .ok (some i) | _ => .bad := rfl
theorem fAsg_e (g : FG) (a : FP) (env : Env) : fAsg g a env = (a env).st env fun d => match g d env with | some e => .nx e | none => .bad := rfl
theorem fgName_e (i : Nat) (d : D) (env : Env) : fgName i d env = some (env.set i (.own d)) := rfl
theorem fgNil_e (env : Env) : fgNil [] env = some env := rfl
theorem fgCons_e (g : FG) (gs : FGs) (d : D) (ds : List D) (env : Env) : fgCons g gs (d :: ds) env = (g d env).bind fun e => gs ds e := rfl
theorem fgTup_e (n : Nat) (gs : FGs) (ds : List D) (env : Env) : fgTup n gs (.tup ds) env = if ds.length = n then gs ds env else none := rfl
theorem fGet2_e (a b e : FP) (env : Env) : fGet2 a b e env = (a env).bind fun d => if isDct d = true then (b env).bind fun k => (e env).bind fun x => .of (gGet2 d k x) else .bad := rfl
theorem fiSq_e (a : FP) (env : Env) : fiSq a env = (a env).bind fun d => .of (itemsOf d) := rfl
theorem fiEnum_e (a : FP) (env : Env) : fiEnum a env = (a env).bind fun d => (O.of (itemsOf d)).bind fun ds => .ok (pairs 0 ds) := rfl
theorem fiRev_e (a : FP) (env : Env) : fiRev a env = (a env).bind fun d => (O.of ((seqOf d).bind fun ds => if clos ds = true then some ds else none)).bind fun ds => .ok ds.reverse := rfl
/-- a range of so many -/
def rngD (n : Nat) : List D := (List.range n).map fun (i : Nat) => D.int (i : Int)
theorem rngD_get {n i : Nat} {d : D} (h : (rngD n)[i]? = some d) : i < n ∧ d = .int (i : Int) := rng_get h
@[simp] theorem rngD_len (n : Nat) : (rngD n).length = n := by simp [rngD]
theorem fFor_e (fi : FA) (fg : FG) (fb : FS) (env : Env) : fFor fi fg fb env = (fi env).st env fun ds => loopF fg fb ds env := rfl
theorem fWipe_e (l : List Nat) (fb : FS) (env : Env) : fWipe l fb env = R.wipe l (fb env) := rfl
theorem fPre_e (l : List Nat) (fb : FS) (env : Env) : fPre l fb env = fb (wipeE env l) := rfl
theorem wipeE_nil (env : Env) : wipeE env [] = env := rfl
theorem wipeE_cons (env : Env) (v : Nat) (l : List Nat) : wipeE env (v :: l) = (wipeE env l).set v .no := rfl
theorem fLc_e (fi : FA) (fg : FG) (ft : FT) (fe : FP) (vs : List Nat) (env : Env) : fLc fi fg ft fe vs env = (fi env).bind fun ds => lcF fg ft fe (wipeE env vs) ds [] := rfl
/-- what a body's end is to the caller -/
def R.out : R → O D
  | .ret d _ => .ok d
  | .nx _ => .ok .non
  | .exc x _ => .exc x
  | _ => .bad
theorem out_ret (d e) : (R.ret d e).out = .ok d := rfl
theorem out_nx (e) : (R.nx e).out = .ok .non := rfl
theorem out_exc (x e) : (R.exc x e).out = .exc x := rfl
theorem fDef_e (n N : Nat) (fs : FS) (ds : List D) (h : ds.length = n) : fDef n N fs ds = (fs (ds.map Sl.bor ++ List.replicate (N - n) Sl.no)).out := by
  unfold fDef
  rw [if_pos h]
  cases fs (ds.map Sl.bor ++ List.replicate (N - n) Sl.no) <;> rfl
end CV
namespace CV
open PySem L2
noncomputable def rngO : D → O (List D)
  | .int n => @ite _ (-4611686018427387904 ≤ n ∧ n < 4611686018427387904) (Classical.propDecidable _) (.ok ((List.range n.toNat).map fun (i : Nat) => D.int (i : Int))) .bad
  | _ => .bad
theorem fiRng1_e' (a : FP) (env : Env) : fiRng1 a env = (a env).bind rngO := rfl
theorem rngO_nat {n : Nat} (h : n < 4611686018427387904) : rngO (.int (n : Int)) = .ok (rngD n) := by
  unfold rngO
  dsimp only
  rw [if_pos (by omega)]
  rfl
noncomputable def appR (env : Env) (i : Nat) (ds : List D) (d : D) : R := @ite _ (ds.length < 16777216) (Classical.propDecidable _) (.nx (env.set i (.own (.lst true (ds ++ [d]))))) .bad
theorem fAppend_e' (i : Nat) (a : FP) (env : Env) : fAppend i a env = (match env[i]? with | some (.own (.lst true ds)) => (a env).st env fun d => appR env i ds d | _ => .bad) := by
  unfold fAppend
  cases h : env[i]? with
  | none => rfl
  | some z =>
    cases z with
    | own d =>
      cases d with
      | lst o ds =>
        cases o
        · rfl
        · dsimp only
          rfl
      | _ => rfl
    | _ => rfl
theorem appR_ok {env : Env} {i : Nat} {ds : List D} {d : D} (h : ds.length < 16777216) : appR env i ds d = .nx (env.set i (.own (.lst true (ds ++ [d])))) := if_pos h
theorem R.seq_assoc (r : R) (f g : FS) : (r.seq f).seq g = r.seq (fun e => (f e).seq g) := by cases r <;> rfl
/-! a part's answer put in -/
theorem step_out {r r' : R} {k : FS} {o : O D} (h : r = r') (h2 : (r'.seq k).out = o) : (r.seq k).out = o := by rw [h]; exact h2
/-- a loop over a range -/
theorem loop_rng {fg : FG} {fb : FS} {n : Nat} {env r : Env} (I : Nat → Env) (h0 : env = I 0) (h : ∀ i, i < n → ∃ e, fg (.int (i : Int)) (I i) = some e ∧ (fb e = .nx (I (i + 1)) ∨ fb e = .cnt (I (i + 1)))) (hr : I n = r) : loopF fg fb (rngD n) env = .nx r :=
  loopF_go I h0 (fun i d hd => by
    obtain ⟨h1, rfl⟩ := rngD_get hd
    exact h i h1) (by rw [rngD_len]; exact hr)
/-- over enumerate -/
theorem loop_enum {α : Type} {fg : FG} {fb : FS} {f : α → D} {xs : List α} {env r : Env} (I : Nat → Env) (h0 : env = I 0) (h : ∀ (i : Nat) (x : α), xs[i]? = some x → ∃ e, fg (.tup [.int (i : Int), f x]) (I i) = some e ∧ (fb e = .nx (I (i + 1)) ∨ fb e = .cnt (I (i + 1)))) (hr : I xs.length = r) : loopF fg fb (pairs 0 (xs.map f)) env = .nx r :=
  loopF_go I h0 (fun i d hd => by
    obtain ⟨y, h1, h2⟩ := pairs_get hd
    rw [List.getElem?_map] at h1
    obtain ⟨x, h3, h4⟩ := Option.map_eq_some_iff.mp h1
    subst h4 h2
    rw [Nat.zero_add]
    exact h i x h3) (by rw [pairs_len, List.length_map]; exact hr)
theorem signsOf_map (l : List Nat) : signsOf l = l.map fun a => D.str [a] := rfl
def az : List Nat := [97, 98, 99, 100, 101, 102, 103, 104, 105, 106, 107, 108, 109, 110, 111, 112, 113, 114, 115, 116, 117, 118, 119, 120, 121, 122]
@[simp] theorem az_len : az.length = 26 := rfl
theorem az_fold : ([97, 98, 99, 100, 101, 102, 103, 104, 105, 106, 107, 108, 109, 110, 111, 112, 113, 114, 115, 116, 117, 118, 119, 120, 121, 122] : List Nat) = az := rfl
/-- a cell -/
def cellD (p : Nat × Nat) : D := .tup [.int (p.1 : Int), .int (p.2 : Int)]
theorem cell_fold (i j : Nat) : D.tup [.int (i : Int), .int (j : Int)] = cellD (i, j) := rfl
theorem frz_cell (p : Nat × Nat) : frz (cellD p) = cellD p := frz_clo rfl
theorem clo_cell' (p : Nat × Nat) : clo (cellD p) = true := rfl
end CV
namespace CV
noncomputable section
open PySem L2
/-! ### a statement that is not reached -/
def fNever : FS := fun _ => .bad
section
variable {c : Cn} {W : WX} {te ta tb : TE} {fe fa fb : FP} {tt tu : TT} {ft fu : FT} {tas : TA} {fas : FA} {ts tz : TS} {fs fz : FS}
/-! ### a call whose arguments are taken as closed: its answer is flat -/
def flat : D → Bool
  | .non | .bl _ | .int _ | .str _ => true
  | _ => false
theorem RpF.flat {W : Wp} {C C' H H' : Hp} {v : V} {d : D} {F : List Addr} (h : CV.flat d = true) (r : RpF W C H v d F) : RpF W C' H' v d [] := by
  cases r <;> first | exact .non | exact .bl _ | exact .int _ | exact .str _ | cases h
def fCallZ (F : List D → O D) (a : FA) : FP := fun env => (a env).bind fun ds => (F (frzs ds)).nox.bind fun d => if flat d = true then .ok d else .bad
/-! ### a tuple's items are taken out, one by one -/
def fForM (j : Nat) (fg : FG) (fb : FS) : FS := fun env => match env[j]? with
  | some (.own (.tup ds)) => loopF fg fb ds (env.set j .no)
  | _ => .bad
/-! ### list(d) of a dict -/
def keyDD : KD → D
  | .k x => keyD x
  | .t xs => .tup (xs.map keyD)
theorem keyD_v {W : Wp} {C H : Hp} (k : Key) : RpF W C H (kV k) (keyD k) [] := by
  cases k with
  | inl i => exact .int i
  | inr s =>
    have := RpF.str (W := W) (C := C) (H := H) s.cps.toList
    rw [S_tl] at this
    exact this
theorem keysD_v {W : Wp} {C H : Hp} : ∀ ks : List Key, RpFs W C H (ks.map kV) (ks.map keyD) []
  | [] => .nil
  | k :: ks => RpFs.cons (F := []) (G := []) (keyD_v k) (keysD_v ks)
theorem Wld.keys {C H : Hp} {L : List Ent} {kvs : List (List Key × V)} {bs : List Addr} (w : Wld c C H L) (hk : IsKeys H kvs bs) : ∃ C', Wld c C' H L ∧ Same C C' ∧ RpFs c.W C' H (bs.map V.ref) (kvs.map fun p => D.tup (p.1.map keyD)) [] := by
  classical
  obtain ⟨F, h1, h2, h3⟩ := w.own
  let C' : Hp := fun a => if a ∈ bs then H a else C a
  have tp : ∀ b ∈ bs, ∃ ys, H b = some (.tup ys) := by
    intro b hb
    unfold IsKeys at hk
    revert hb
    clear C'
    induction hk with
    | nil => intro hb; simp at hb
    | cons h t ih =>
      intro hb
      rcases List.mem_cons.mp hb with q | q
      · subst q; exact ⟨_, h⟩
      · exact ih q
  have eC : Same C C' := fun a o e => by
    show (if a ∈ bs then H a else C a) = some o
    by_cases q : a ∈ bs
    · rw [if_pos q]; exact w.sub a o e
    · rw [if_neg q]; exact e
  refine ⟨C', ⟨w.same, fun a o e => ?_, w.ext.trans eC, fun a o e n => ?_, w.old, F, RpFs.mono eC (fun _ _ => rfl) h1, h2, fun a ha => ⟨?_, (h3 a ha).2⟩⟩, eC, ?_⟩
  · have e' : (if a ∈ bs then H a else C a) = some o := e
    by_cases q : a ∈ bs
    · rw [if_pos q] at e'; exact e'
    · rw [if_neg q] at e'; exact w.sub a o e'
  · have e' : (if a ∈ bs then H a else C a) = some o := e
    by_cases q : a ∈ bs
    · rw [if_pos q] at e'
      obtain ⟨ys, hy⟩ := tp a q
      cases e0 : c.H0 a with
      | none => exact .inl rfl
      | some u =>
        by_cases hm : a ∈ c.M
        · exact .inr (.inl hm)
        · have := w.same a u hm e0
          rw [hy] at this
          exact .inr (.inr ⟨ys, by rw [← this]⟩)
    · rw [if_neg q] at e'
      exact w.new a o e' n
  · have q : a ∉ bs := fun z => by
      obtain ⟨ys, hy⟩ := tp a z
      exact (RpFs.there2 h1 a ha).2 ys hy
    show (if a ∈ bs then H a else C a) = none
    rw [if_neg q]
    exact (h3 a ha).1
  · have inb : ∀ b ∈ bs, C' b = H b := fun b hb => if_pos hb
    clear_value C'
    unfold IsKeys at hk
    clear tp
    induction hk with
    | nil => exact .nil
    | cons h t ih => exact RpFs.cons (F := []) (G := []) (.tup ((inb _ (by simp)).trans h) (keysD_v _)) (ih fun b hb => inb b (List.mem_cons_of_mem _ hb))
def gListX : List D → Option D
  | [.dct _ _ ks _] => some (.lst true (ks.map keyDD))
  | ds => gList ds
end
end
end CV
namespace CV
noncomputable section
open PySem L2
/-! ### several values, some of them taken out of their slots -/
abbrev FM := Env → O (List D × Env)
def fmNil : FM := fun env => .ok ([], env)
def fmCons (a : FP) (b : FM) : FM := fun env => (a env).nox.bind fun d => (b env).bind fun p => .ok (d :: p.1, p.2)
def fmMv (i : Nat) (b : FM) : FM := fun env => match env[i]? with
  | some (.own d) => (b (env.set i .no)).bind fun p => .ok (d :: p.1, p.2)
  | _ => .bad
def fRetT (a : FM) : FS := fun env => match a env with
  | .ok p => @ite _ (p.1.length ≤ 16777216) (Classical.propDecidable _) (.ret (.tup p.1) p.2) .bad
  | _ => .bad
section
variable {c : Cn} {W : WX} {te ta tb : TE} {fe fa fb : FP} {tas : TA} {fm : FM}
def RAM (c : Cn) (W : WX) (ta : TA) (fm : FM) : Prop := ∀ (σ : L2.St) (H C : Hp) (env : Env) (T : List Ent), Stt c C σ H env T → ∀ Q : List V → Hp → Prop,
  (∀ ds vs env' H' C', fm env = .ok (ds, env') → vs.length = ds.length → Stt c C' σ H' env' (vs.zip ds ++ T) → Same C C' → Same H H' → Q vs H') →
  (∃ p, fm env = .ok p) → ta σ H Q
theorem ram_nil : RAM c W tNil fmNil := fun σ H C env T s Q q nb => q [] [] env H C rfl rfl s (Same.refl _) (Same.refl _)
theorem ram_cons (ha : RP c W te fe) (hb : RAM c W tas fm) : RAM c W (tCons te tas) (fmCons fe fm) := fun σ H C env T s Q q nb => by
  obtain ⟨p, hp⟩ := nb
  unfold fmCons at q hp
  cases he : fe env with
  | bad => rw [he] at hp; cases hp
  | exc y => rw [he] at hp; cases hp
  | ok d0 =>
    rw [he, O.nox_ok, O.bind_ok] at hp q
    cases hm : fm env with
    | bad => rw [hm] at hp; cases hp
    | exc y => rw [hm] at hp; cases hp
    | ok p2 =>
      rw [hm] at q
      refine ha σ H C env T s _ (fun d1 v1 H1 C1 e1 s1 k1 t1 => hb σ H1 C1 env _ s1 _ (fun ds vs env2 H2 C2 e2 hl s2 k2 t2 => ?_) ⟨p2, hm⟩) (fun y cl dx H' C' e1 => by rw [he] at e1; cases e1) (fun e1 => by rw [he] at e1; cases e1)
      rw [he] at e1; cases e1
      rw [hm] at e2; cases e2
      exact q (d0 :: ds) (v1 :: vs) env2 H2 C2 rfl (by simp [hl]) ⟨s2.e, s2.w.perm (by
        show ((v1, d0) :: (vs.zip ds) ++ T ++ slotsE σ env2).Perm (vs.zip ds ++ (v1, d0) :: T ++ slotsE σ env2)
        exact (List.perm_middle.symm).append_right _)⟩ (k1.trans k2) (t1.trans t2)
theorem ram_mv {i : Nat} (hb : RAM c W tas fm) : RAM c W (tCons (tVar i) tas) (fmMv i fm) := fun σ H C env T s Q q nb => by
  obtain ⟨p, hp⟩ := nb
  unfold fmMv at q hp
  cases h : env[i]? with
  | none => rw [h] at hp; cases hp
  | some z =>
    cases z with
    | no => rw [h] at hp; cases hp
    | bor d => rw [h] at hp; cases hp
    | pin => rw [h] at hp; cases hp
    | io d => rw [h] at hp; cases hp
    | own d =>
      rw [h] at hp q
      dsimp only at hp q
      obtain ⟨v, hv, s1⟩ := s.move h
      cases hm : fm (env.set i .no) with
      | bad => rw [hm] at hp; cases hp
      | exc y => rw [hm] at hp; cases hp
      | ok p2 =>
        rw [hm] at q
        refine ⟨v, hv, hb σ H C (env.set i .no) _ s1 _ (fun ds vs env2 H2 C2 e2 hl s2 k2 t2 => ?_) ⟨p2, hm⟩⟩
        rw [hm] at e2; cases e2
        exact q (d :: ds) (v :: vs) env2 H2 C2 rfl (by simp [hl]) ⟨s2.e, s2.w.perm (by
          show ((v, d) :: (vs.zip ds) ++ T ++ slotsE σ env2).Perm (vs.zip ds ++ (v, d) :: T ++ slotsE σ env2)
          exact (List.perm_middle.symm).append_right _)⟩ k2 t2
theorem rs_retT (ha : RAM c W tas fm) : RS c W (tRet (tTup tas)) (fRetT fm) := fun σ H C env T dn s n r b t x nb => by
  unfold fRetT at r nb
  cases hm : fm env with
  | bad => rw [hm] at nb; exact absurd rfl nb
  | exc y => rw [hm] at nb; exact absurd rfl nb
  | ok p2 =>
    rw [hm] at r nb
    dsimp only at r nb
    refine ha σ H C env T s _ (fun ds vs env2 H1 C1 e1 hl s1 k1 t1 => ?_) ⟨p2, hm⟩
    rw [hm] at e1; cases e1
    by_cases hz : ds.length ≤ 16777216
    · rw [if_pos hz] at r
      refine ⟨by rw [hl]; exact hz, fun p hp => ?_⟩
      have w2 := (show Wld c C1 H1 (vs.zip ds ++ (T ++ slotsE σ env2)) by rw [← List.append_assoc]; exact s1.w).mkTup hp
      rw [zip_fst hl, zip_snd hl] at w2
      exact r _ _ _ σ _ _ rfl ⟨s1.e, w2⟩ (k1.trans (same_upd (s1.w.sub.free hp)))
    · rw [if_neg hz] at nb; exact absurd rfl nb
end
end
end CV
namespace CV
noncomputable section
open PySem L2
/-! ### int, str, bool, max, min -/
def uInt : List V → Hp → VK → Prop := fun xs H Q => ((∃ i, xs = [.int i] ∧ Q (.int i) H) ∨ ∃ k, xs = [.bl k] ∧ Q (.int (if k then 1 else 0)) H) ∨ ∃ a n, xs = [.str a] ∧ PySem.intText? a = some n ∧ a.length ≤ 640 ∧ Q (.int n) H
theorem call_uInt {X : Cx} : CallR X (.type "int") uInt := call_int1.or call_int_str
def gInt : List D → Option D
  | [.int i] => some (.int i)
  | [.bl b] => some (.int (if b = true then 1 else 0))
  | [.str l] => if l.length ≤ 640 then (PySem.intText? (S l)).map D.int else none
  | _ => none
def uStr : List V → Hp → VK → Prop := fun xs H Q => (∃ i, xs = [.int i] ∧ i.natAbs.log2 < 1920 ∧ Q (.str (toString i)) H) ∨ ∃ a, xs = [.str a] ∧ Q (.str a) H
theorem call_uStr {X : Cx} : CallR X (.type "str") uStr := call_str_int.or SkE.call_str_str
def strI (i : Int) : List Nat := (toString i : Str).cps.toList
def gStr : List D → Option D
  | [.int i] => if i.natAbs.log2 < 1920 then some (.str (strI i)) else none
  | [.str l] => some (.str l)
  | _ => none
section
variable {c : Cn} {W : WX} {te ta tb : TE} {fe fa fb : FP}
theorem cg_int : CallG c uInt gInt := cg_flat fun H C vs ds d F s r e Q q => by
  unfold gInt at e
  split at e
  · obtain ⟨v, rfl, rv⟩ := rps1 r
    cases rv; cases e
    exact .inl (.inl ⟨_, rfl, q _ fun _ _ => .int _⟩)
  · obtain ⟨v, rfl, rv⟩ := rps1 r
    cases rv; cases e
    exact .inl (.inr ⟨_, rfl, q _ fun _ _ => .int _⟩)
  · obtain ⟨v, rfl, rv⟩ := rps1 r
    cases rv
    rename_i l
    by_cases hl : l.length ≤ 640
    · rw [if_pos hl] at e
      obtain ⟨n, h1, h2⟩ := Option.map_eq_some_iff.mp e
      cases h2
      exact .inr ⟨_, n, rfl, h1, by rw [S_len]; exact hl, q _ fun _ _ => .int _⟩
    · rw [if_neg hl] at e; cases e
  · cases e
theorem cg_str : CallG c uStr gStr := cg_flat fun H C vs ds d F s r e Q q => by
  unfold gStr at e
  split at e
  · obtain ⟨v, rfl, rv⟩ := rps1 r
    cases rv
    rename_i i
    by_cases hl : i.natAbs.log2 < 1920
    · rw [if_pos hl] at e; cases e
      refine .inl ⟨i, rfl, hl, q _ fun C H => ?_⟩
      have := RpF.str (W := c.W) (C := C) (H := H) (strI i)
      unfold strI at this ⊢
      rw [S_tl] at this
      exact this
    · rw [if_neg hl] at e; cases e
  · obtain ⟨v, rfl, rv⟩ := rps1 r
    cases rv; cases e
    exact .inr ⟨_, rfl, q _ fun _ _ => .str _⟩
  · cases e
end
end
end CV
namespace CV
open PySem L2
theorem fForM_e (j : Nat) (fg : FG) (fb : FS) (env : Env) : fForM j fg fb env = (match env[j]? with | some (.own (.tup ds)) => loopF fg fb ds (env.set j .no) | _ => .bad) := rfl
theorem fCallZ_e (F : List D → O D) (a : FA) (env : Env) : fCallZ F a env = (a env).bind fun ds => (F (frzs ds)).nox.bind fun d => if flat d = true then .ok d else .bad := rfl
noncomputable def retTR (ds : List D) (e : Env) : R := @ite _ (ds.length ≤ 16777216) (Classical.propDecidable _) (.ret (.tup ds) e) .bad
theorem fRetT_e (a : FM) (env : Env) : fRetT a env = (match a env with | .ok p => retTR p.1 p.2 | _ => .bad) := rfl
theorem retTR_ok {ds : List D} {e : Env} (h : ds.length ≤ 16777216) : retTR ds e = .ret (.tup ds) e := if_pos h
theorem fmNil_e (env : Env) : fmNil env = .ok ([], env) := rfl
theorem fmCons_e (a : FP) (b : FM) (env : Env) : fmCons a b env = (a env).nox.bind fun d => (b env).bind fun p => .ok (d :: p.1, p.2) := rfl
theorem fmMv_e (i : Nat) (b : FM) (env : Env) : fmMv i b env = (match env[i]? with | some (.own d) => (b (env.set i .no)).bind fun p => .ok (d :: p.1, p.2) | _ => .bad) := rfl
theorem fNever_e (env : Env) : fNever env = .bad := rfl
theorem gListX_d (o : Bool) (t : Nat) (ks : List KD) (ds : List D) : gListX [.dct o t ks ds] = some (.lst true (ks.map keyDD)) := rfl
theorem gListX_t (ds : List D) : gListX [.tup ds] = gList [.tup ds] := rfl
theorem gListX_l (o : Bool) (ds : List D) : gListX [.lst o ds] = gList [.lst o ds] := rfl
theorem gListX_r (ds : List D) : gListX [.ro ds] = gList [.ro ds] := rfl
theorem gInt_i (i : Int) : gInt [.int i] = some (.int i) := rfl
theorem gInt_b (b : Bool) : gInt [.bl b] = some (.int (if b = true then 1 else 0)) := rfl
end CV
namespace CV
noncomputable section
open PySem L2
/-! ### text methods -/
def rUpper : V → List V → Hp → VK → Prop := fun x xs H Q => ∃ a, x = .str a ∧ xs = [] ∧ a.length ≤ 5592405 ∧ Q (.str (Txt.upper a)) H
def rPartition : V → List V → Hp → VK → Prop := fun x xs H Q => ∃ a b, x = .str a ∧ xs = [.str b] ∧ (b.length == 0) = false ∧ a.length ≤ sizeLine ∧
      ∀ p, H p = none → Q (.ref p) (upd H p (.tup [.str (Txt.partition a b).1, .str (Txt.partition a b).2.1, .str (Txt.partition a b).2.2]))
def cpsL (x : Str) : List Nat := x.cps.toList
theorem S_cps (x : Str) : S (cpsL x) = x := S_tl x
def gText (n : Nat) (f : Str → Str) : D → Option D
  | .str l => @ite _ (l.length ≤ n) (Classical.propDecidable _) (some (.str (cpsL (f (S l))))) none
  | _ => none
def gPartition : D → D → Option D
  | .str l, .str m => @ite _ (m ≠ [] ∧ l.length ≤ 16777216) (Classical.propDecidable _) (some (.tup [.str (cpsL (Txt.partition (S l) (S m)).1), .str (cpsL (Txt.partition (S l) (S m)).2.1), .str (cpsL (Txt.partition (S l) (S m)).2.2)])) none
  | _, _ => none
section
variable {c : Cn} {W : WX} {te ta tb : TE} {fe fa fb : FP}
def MtG (c : Cn) (r : V → List V → Hp → VK → Prop) (g : D → Option D) : Prop := ∀ (C H : Hp) (l : List Nat) (d : D), g (.str l) = some d → ∀ Q : VK, (∀ v, (∀ C H, RpF c.W C H v d []) → Q v H) → r (.str (S l)) [] H Q
theorem rp_m0 {r : V → List V → Hp → VK → Prop} {g : D → Option D} (hg : ∀ d e, g d = some e → ∃ l, d = .str l) (hr : MtG c r g) (ha : RV c W ta fa) : RP c W (tM0 r ta) (fM0 g fa) := fun σ H C env T s Q q x nb =>
  ha σ H C env T s _ (fun d1 v1 H1 C1 F1 e1 s1 k1 t1 r1 => by
    unfold fM0 at q nb
    rw [e1, O.bind_ok] at q nb
    cases eg : g d1 with
    | none => exact absurd (by rw [eg]; rfl) nb
    | some d =>
      obtain ⟨l, rfl⟩ := hg _ _ eg
      cases r1
      exact ⟨⟨_, rfl⟩, hr C1 H1 l d eg Q fun v rv => q d v H1 C1 (by rw [eg]; rfl) (s1.push (rv _ _)) k1 t1⟩)
  (fun y cl dx H' C' e1 => x y cl dx H' C' (by unfold fM0; rw [e1]; rfl)) (fun e1 => nb (by unfold fM0; rw [e1]; rfl))
theorem gText_str {n : Nat} {f : Str → Str} : ∀ d e, gText n f d = some e → ∃ l, d = .str l := fun d e h => by
  cases d <;> first | exact ⟨_, rfl⟩ | cases h
theorem mg_text {n : Nat} {f : Str → Str} {r : V → List V → Hp → VK → Prop} (hr : ∀ (a : Str) (H : Hp) (Q : VK), a.length ≤ n → Q (.str (f a)) H → r (.str a) [] H Q) : MtG c r (gText n f) := fun C H l d e Q q => by
  have e' : (@ite _ (l.length ≤ n) (Classical.propDecidable _) (some (D.str (cpsL (f (S l))))) none) = some d := e
  by_cases h : l.length ≤ n
  · rw [if_pos h] at e'
    cases e'
    refine hr _ _ _ (by rw [S_len]; exact h) (q _ fun C H => ?_)
    have := RpF.str (W := c.W) (C := C) (H := H) (cpsL (f (S l)))
    rwa [S_cps] at this
  · rw [if_neg h] at e'; cases e'
theorem mg_upper : MtG c rUpper (gText 5592405 Txt.upper) := mg_text fun a H Q h q => ⟨a, rfl, rfl, h, q⟩
theorem og_partition : OpG c (fun x y => rPartition x [y]) gPartition := fun C H L x y d1 d2 d F1 F2 w r1 r2 e Q q => by
  unfold gPartition at e
  split at e
  · rename_i l m
    by_cases h : m ≠ [] ∧ l.length ≤ 16777216
    · rw [if_pos h] at e
      cases e
      cases r1; cases r2
      refine ⟨S l, S m, rfl, rfl, ?_, by rw [S_len]; exact h.2, fun p hp => ?_⟩
      · rw [S_len]
        cases m with
        | nil => exact absurd rfl h.1
        | cons a m => rfl
      · have rr : RpFs c.W C H [.str (Txt.partition (S l) (S m)).1, .str (Txt.partition (S l) (S m)).2.1, .str (Txt.partition (S l) (S m)).2.2] [.str (cpsL (Txt.partition (S l) (S m)).1), .str (cpsL (Txt.partition (S l) (S m)).2.1), .str (cpsL (Txt.partition (S l) (S m)).2.2)] [] := by
          have st : ∀ z : Str, RpF c.W C H (.str z) (.str (cpsL z)) [] := fun z => by
            have := RpF.str (W := c.W) (C := C) (H := H) (cpsL z)
            rwa [S_cps] at this
          exact RpFs.cons (F := []) (G := []) (st _) (RpFs.cons (F := []) (G := []) (st _) (RpFs.cons (F := []) (G := []) (st _) .nil))
        exact q _ _ _ (w.newTup hp rr) (same_upd (w.sub.free hp)) (same_upd hp)
    · rw [if_neg h] at e; cases e
  · cases e
end
end
end CV
namespace CV
noncomputable section
open PySem L2
open PyProof.Rows (envOfC)
/-! ### readings made weaker -/
theorem ps_weak {X : Cx} {st : Stmt} {t t' : TS} (h : PS X st t) (i : ∀ D σ H, t' D σ H → t D σ H) : PS X st t' := ⟨fun pins s σ H D I q => h.run pins s σ H D I (i _ _ _ q)⟩
theorem pe_weak {X : Cx} {e : Expr} {t t' : TE} (h : PE X e t) (i : ∀ σ H Q, t' σ H Q → t σ H Q) : PE X e t' := ⟨fun pins s σ H Q I q => h.run pins s σ H Q I (i _ _ _ q)⟩
def tMono (t : TE) : TE := fun σ H Q => ∃ Q0 : VK, t σ H Q0 ∧ ∀ v H', Q0 v H' → Q v H'
theorem pe_mono {X : Cx} {e : Expr} {t : TE} (h : PE X e t) : PE X e (tMono t) := ⟨fun pins s σ H Q I ⟨Q0, q, i⟩ => thn (h.run pins s σ H Q0 I q) fun u s' ⟨v, H', I', r, q'⟩ => ⟨v, H', I', r, i _ _ q'⟩⟩
/-! ### the promise of an __init__ that keeps one thing -/
def spI (K : Fg) (f : Str) : Sp := fun vs H Q _ => ∃ (a C : Addr) (v : V), vs = [.ref a, v] ∧ OexC K C ∧ PySem.W.findIn K (.ref C) f = some none ∧ H a = some (exo a C none) ∧
  ∀ dx, H dx = none → dx ≠ a → Q .non (upd (upd H dx (exd dx [(f, v)])) a (exo a C (some dx)))
theorem init_ok {P : Program} {w : World} {K : Fg} {mg : Str → Option Value} {base : Heap} {qual f : Str} {st : Stmt} {fI : Addr} {fd : FuncData} {n0 n1 : Str} {k : Nat} (F : Fun K "__init__" qual st fI fd) (S : FnScope [n0, n1] [n0, n1] (defScope st))
    (h : ∀ (cdv : Value) (A : Around) (outer : List PySem.Env) (s : Shared) (H : Hp) (E : XK), PSs (cxOf (L2.CX P w) P w K mg base [n0, n1] qual (defScope st) fI cdv A outer s H E) (defBody st) (tSeq (tOst K f (tVar 0) (tVar 1)) tNext)) :
    FnOk P w K mg base (L2.CX P w) (k + 1) fI fd [n0, n1] (spI K f) :=
  F.okX S (fun vs H Q E ⟨a, C, v, ev, _⟩ => by rw [ev]; rfl) fun cdv A outer s H vs Q E hR ⟨a, C, v, ev, T, hno, ea, q⟩ => ⟨_, h cdv A outer s H E, by
    subst ev
    exact ⟨v, rfl, .ref a, rfl, a, C, rfl, T, hno, .inl ⟨ea, fun dx h1 h2 => q dx h1 h2⟩⟩⟩
/-! ### raise -/
def tRaise1 (Wp : Wp) (n f : Str) (te : TE) (W : WX) : TS := fun _ σ H => te σ H fun v H1 => ∀ C dx, Wp.cl n = some C → H1 dx = none → W (.ref C) (some dx) σ (upd H1 dx (.xd [(f, v)]))
structure XOwn (K : Fg) (mg : Str → Option Value) (cl : Str → Option Addr) (x : Str) : Prop where
  ex : ∃ C, cl x = some C ∧ mg x = some (.ref C) ∧ (∃ bm, ExcBaseFacts "ValueError" "ValueError.__new__" "ValueError.__init__" bm ∧ PySem.W.excIn K C bm "ValueError.__new__" = true) ∧ PySem.W.keepIn K (.ref C) = true ∧ PySem.W.subIn K (.ref C) (.type "BaseException") = some true ∧ PySem.W.typeIn K (.ref C) = some (.type "type")
structure XInit (P : Program) (w : World) (K : Fg) (mg : Str → Option Value) (base : Heap) (cl : Str → Option Addr) (x f : Str) (k : Nat) : Prop where
  ex : ∃ (C fI : Addr) (fd : FuncData) (ps : List Str), cl x = some C ∧ mg x = some (.ref C) ∧ OexC K C ∧ PySem.W.findIn K (.ref C) "__init__" = some (some (.ref fI)) ∧ PySem.W.typeIn K (.ref fI) = some (.type "function") ∧ PySem.W.findIn K (.ref C) f = some none ∧
    Binds K fd ps [] ∧ FnOk P w K mg base (L2.CX P w) k fI fd ps (spI K f)
section
variable {X : Cx} {W : WX} {Wp : Wp} {x f : Str} {e : Expr} {te : TE} {p pos pos2 : Pos} {k : Nat}
theorem ps_raise1 (h : XInit X.prog X.w X.K X.mg X.base Wp.cl x f k) (hr : Room (k + 1) X.A) (hc : X.calm = true) (tk : Takes X W) (he : PE X e te) (hg : Gl X x := by rfl) (hdb : (x == ("__debug__" : Str)) = false := by decide)
    (hs : starEach (e :: []) X.env = (false, eval e X.env) :: starEach [] X.env := by rfl) (hpl : (backTo pos (starEach [] X.env)).any (·.1) = false := by rfl) :
    PS X (.Raise (some (.Call (.Name x p) [e] [] pos)) none pos2) (tRaise1 Wp x f te W) := by
  obtain ⟨C, fI, fd, ps, e1, gC, T, iC, tI, hno, hb, F⟩ := h.ex
  refine ps_weak (ps_raise hc tk (pmk_oex T iC tI F hr hb .nil (passes_call tk fun _ _ _ _ z => z.elim) hg gC (pa_cons (pe_mono he) pa_nil hs) hdb hs hpl)) fun D σ H q => ?_
  refine ⟨_, q, fun v H1 q1 => ⟨by show 1 ≤ 1000; omega, fun a ha => ⟨a, C, v, rfl, T, hno, upd_same, fun dx hd hne => ⟨rfl, dx, [(f, v)], upd_same, (upd_ne hne).trans upd_same, ?_, ?_⟩⟩⟩⟩
  · rw [upd_ne hne] at hd; exact hd
  · rw [upd_ne hne] at hd
    have := q1 C dx e1 hd
    have ee : upd (del (upd (upd (upd H1 a (exo a C none)) dx (exd dx [(f, v)])) a (exo a C (some dx))) a) dx (.xd [(f, v)]) = upd H1 dx (.xd [(f, v)]) := by
      funext b
      by_cases hb : b = dx
      · subst hb; rw [upd_same, upd_same]
      · rw [upd_ne hb, upd_ne hb]
        by_cases hba : b = a
        · subst hba; rw [del_same, ha]
        · rw [del_ne hba, upd_ne hba, upd_ne hb, upd_ne hba]
    rw [ee]
    exact this
end
def fRaise0 (n : Str) : FS := fun env => .exc ⟨n, [], []⟩ env
def fRaise1 (n f : Str) (fe : FP) : FS := fun env => (fe env).st env fun d => if clo d = true then .exc ⟨n, [f], [d]⟩ env else .bad
section
variable {c : Cn} {W : WX} {te : TE} {fe : FP} {n f : Str}
theorem rs_raise1 (he : RV c W te fe) : RS c W (tRaise1 c.W n f te W) (fRaise1 n f fe) := fun σ H C env T dn s _ _ _ _ x nb =>
  he σ H C env T s _ (fun d v H1 C1 F1 e1 s1 k1 t1 r1 => by
      unfold fRaise1 at x nb
      rw [e1, O.st_ok] at x nb
      by_cases hc : clo d = true
      · rw [if_pos hc] at x
        intro Ca dx hC hdx
        have kk : Same C1 (upd C1 dx (.xd [(f, v)])) := same_upd (s1.w.sub.free hdx)
        exact x _ env _ _ σ _ (upd C1 dx (.xd [(f, v)])) rfl ⟨s1.e, s1.w.laid hdx⟩ (k1.trans kk) ⟨Ca, hC, rfl, .inr ⟨dx, [(f, v)], rfl, upd_same, rfl, .one (r1.c hc kk)⟩⟩
      · rw [if_neg hc] at nb; exact absurd rfl nb)
    (fun y cl dx H' C' e1 s1 k1 t1 xr => x y env cl dx σ H' C' (by unfold fRaise1; rw [e1]; rfl) s1 k1 xr) (fun e1 => nb (by unfold fRaise1; rw [e1]; rfl))
end
end
end CV
namespace CV
noncomputable section
open PySem L2 PySem.Spec PyProof.Rows
def aliveD (H : Hp) (d : Option Addr) : Prop := d = none ∨ ∃ dd fs, d = some dd ∧ H dd = some (.xd fs)
def IsTbl (K : Fg) (Wp : Wp) (tbl : List (Str × Bool)) (cvs : List Value) : Prop := ∀ n b, (n, b) ∈ tbl → ∀ D, Wp.cl n = some D → ExcC K D ∧ PySem.W.kitAny K (.ref D) cvs = some b
theorem kitAny_one {K : Fg} {t c : Value} {b : Bool} (h : PySem.W.kitAny K t [c] = some b) : PySem.W.kitOne K t c = some b := by
  unfold PySem.W.kitAny at h
  cases e : PySem.W.kitOne K t c with
  | none => rw [e] at h; cases h
  | some v =>
    rw [e] at h
    cases v with
    | true => exact h
    | false => exact h
section
variable {X : Cx} {a : Addr} {cls : Value} {d : Option Addr} {oe : Obj} {pn : List (Addr × Obj)} {Wp : Wp} {tbl : List (Str × Bool)} {i : Nat} {ex ec : Expr} {p pos : Pos}
end
end
end CV
namespace CV
noncomputable section
open PySem L2 PySem.Spec PyProof.Rows
/-! ### try: .. except X as n: one statement -/
section
variable {X : Cx} {x n : Str} {c : Value} {i : Nat} {body suite : List Stmt} {b₀ : Stmt} {np pos pos' : Pos} {tb : WX → TS} {ts : Addr → Value → Option Addr → TS} {Wout : WX} {Wp : Wp} {tbl : List (Str × Bool)}
end
def fTry (tbl : List (Str × Bool)) (i : Nat) (fb : FS) (fh : Exc → FS) : FS := fun env => match fb env with
  | .exc x e => if i < e.length then (match tbl.lookup x.cl with
    | some true => (match fh x (e.set i .no) with
      | .nx e' => .nx (e'.set i .no)
      | _ => .bad)
    | some false => .exc x e
    | none => .bad) else .bad
  | r => r
section
variable (c : Cn)
end
theorem XR.mono {W : Wp} {C C' : Hp} {x : Exc} {cls : Value} {dx : Option Addr} (h : XR W C x cls dx) (k : Same C C') : XR W C' x cls dx := by
  obtain ⟨Ca, h1, h2, h3⟩ := h
  refine ⟨Ca, h1, h2, ?_⟩
  rcases h3 with h3 | ⟨p, fs, e, ep, en, r⟩
  · exact .inl h3
  · exact .inr ⟨p, fs, e, k _ _ ep, en, RpFs.mono k (fun a ha => by simp at ha) r⟩
theorem lookup_mem {α : Type} {n : Str} {b : α} : ∀ {l : List (Str × α)}, l.lookup n = some b → (n, b) ∈ l
  | [], h => by simp at h
  | (m, c) :: l, h => by
    rw [List.lookup_cons] at h
    by_cases e : n = m
    · subst e
      simp at h
      subst h
      simp
    · have : (n == m) = false := by simpa using e
      rw [this] at h
      exact List.mem_cons_of_mem _ (lookup_mem h)
section
variable {c : Cn} {W : WX} {tb : WX → TS} {fb : FS} {ts : Addr → Value → Option Addr → TS} {fh : Exc → FS} {tbl : List (Str × Bool)} {i : Nat} {te : Addr → Value → Option Addr → TE} {fe : Exc → FP} {ta : Addr → Value → Option Addr → TA} {fa : Exc → FA}
end
/-! what a suite reads of the exception -/
def fIsE (tbl : List (Str × Bool)) (x : Exc) : FP := fun _ => match tbl.lookup x.cl with
  | some b => .ok (.bl b)
  | none => .bad
def fXf (n f : Str) (x : Exc) : FP := fun _ => if x.cl = n then .of ((x.ns.zip x.ds).lookup f) else .bad
theorem fld_get {W : Wp} {C H : Hp} {f : Str} : ∀ {fs : List (Str × V)} {ns : List Str} {ds : List D} {d : D}, fs.map (·.1) = ns → RpFs W C H (fs.map (·.2)) ds [] → (ns.zip ds).lookup f = some d → ∃ v, fs.lookup f = some v ∧ RpF W C H v d []
  | [], _, ds, d, e, r, h => by subst e; simp at h
  | (g, v) :: fs, _, ds, d, e, r, h => by
    subst e
    rw [List.map_cons] at r
    generalize hF : ([] : List Addr) = F at r
    cases r with
    | @cons _ _ d0 ds0 F1 F2 r1 r2 =>
      have e12 := List.append_eq_nil_iff.mp hF.symm
      obtain ⟨e1, e2⟩ := e12
      subst e1 e2
      rw [List.map_cons, List.zip_cons_cons, List.lookup_cons] at h
      rw [List.lookup_cons]
      by_cases q : f = g
      · subst q
        simp at h ⊢
        subst h
        exact r1
      · have qq : (f == g) = false := by simpa using q
        rw [qq] at h ⊢
        exact fld_get rfl r2 h
section
variable {c : Cn} {tbl : List (Str × Bool)} {i : Nat} {n f : Str}
end
end
end CV
namespace CV
noncomputable section
open PySem L2 PySem.Spec PyProof.Rows
/-! ### classes of the text, by name -/
def clOf (mg : Str → Option Value) (n : Str) : Option Addr := match mg n with
  | some (.ref a) => some a
  | _ => none
theorem clOf_of {mg : Str → Option Value} {n : Str} {a : Addr} (h : mg n = some (.ref a)) : clOf mg n = some a := by unfold clOf; rw [h]
structure ClsN (K : Fg) (mg : Str → Option Value) (n : Str) (C : Addr) : Prop where
  g : mg n = some (.ref C)
  k : PySem.W.keepIn K (.ref C) = true
  e : PySem.W.subIn K (.ref C) (.type "BaseException") = some true
  t : PySem.W.typeIn K (.ref C) = some (.type "type")
  i : PySem.W.isClsIn K C = true
  s : PySem.W.subIn K (.ref C) (.ref C) = some true
structure ClsR (K : Fg) (C : Addr) : Prop where
  hd : PySem.W.hasDictIn K C = true
  ga : PySem.W.findIn K (.ref C) "__getattribute__" = some (some (.builtin "BaseException.__getattribute__"))
  gg : PySem.W.findIn K (.ref C) "__getattr__" = some none
  cl : PySem.W.findIn K (.ref C) "__class__" = some (some (.builtin "object.__class__"))
  mo : PySem.W.mroIn K C (.type "object") = some true
  sp : PySem.W.specialIn K (.builtin "object.__class__") "__get__" = some (some (.builtin "getset_descriptor.__get__"))
  tk : PySem.W.takesIn K (.builtin "object.__class__") = some true
section
variable {K : Fg} {mg : Str → Option Value} {n m : Str} {C D : Addr} {b : Bool}
theorem ClsR.x (h : ClsR K C) (g : ClsN K mg n C) : ExcC K C := ⟨h.ga, h.gg, g.e, h.hd, h.cl, h.sp, h.tk, h.mo⟩
theorem ClsR.f (h : ClsR K C) (g : ClsN K mg n C) : XfC K C := ⟨h.ga, h.gg, g.e, h.hd⟩
theorem cls_some (h : PySem.W.isClsIn K C = true) : (PySem.W.clsIn K C).isSome = true := h
theorem exm_of (g : ClsN K mg n C) (h : PySem.W.subIn K (.ref D) (.ref C) = some b) : PySem.W.exmOne K (.ref D) (.ref C) = some b := by
  have e1 : (PySem.W.subIn K (.ref C) (.type "BaseException") == some true) = true := by rw [g.e] <;> rfl
  have e2 : ((PySem.W.clsIn K C).isSome && PySem.W.typeIn K (.ref C) == some (.type "type")) = true := by rw [cls_some g.i, g.t] <;> rfl
  show (if (PySem.W.subIn K (.ref C) (.type "BaseException") == some true) = true then (if ((PySem.W.clsIn K C).isSome && PySem.W.typeIn K (.ref C) == some (.type "type")) = true then PySem.W.subIn K (.ref D) (.ref C) else none) else none) = some b
  rw [if_pos e1, if_pos e2]
  exact h
theorem kit_of (g : ClsN K mg n C) (h : PySem.W.subIn K (.ref D) (.ref C) = some b) : PySem.W.kitOne K (.ref D) (.ref C) = some b := by
  unfold PySem.W.kitOne
  by_cases e : (Value.ref D == Value.ref C) = true
  · rw [if_pos e]
    have e' : D = C := Value.ref.inj (beq_iff_eq.mp e)
    subst e'
    rw [g.s] at h
    exact h
  · rw [if_neg e]
    show (if ((PySem.W.clsIn K C).isSome && PySem.W.typeIn K (.ref C) == some (.type "type")) = true then PySem.W.subIn K (.ref D) (.ref C) else none) = some b
    rw [if_pos (by rw [cls_some g.i, g.t] <;> rfl)]
    exact h
theorem kit_ve (h : PySem.W.subIn K (.ref D) (.type "ValueError") = some b) : PySem.W.kitOne K (.ref D) (.type "ValueError") = some b := by
  unfold PySem.W.kitOne
  have e : (Value.ref D == Value.type "ValueError") = false := by rfl
  rw [e, if_neg Bool.false_ne_true]
  show (if PySem.W.kitMeta "ValueError" = true then PySem.W.subIn K (.ref D) (.type "ValueError") else none) = some b
  rw [if_pos (by decide +kernel)]
  exact h
theorem kit_nil : PySem.W.kitAny K (.ref D) [] = some false := rfl
theorem kit_t {c : Value} {r : List Value} (h : PySem.W.kitOne K (.ref D) c = some true) : PySem.W.kitAny K (.ref D) (c :: r) = some true := by
  unfold PySem.W.kitAny; rw [h]
theorem kit_f {c : Value} {r : List Value} {b : Bool} (h : PySem.W.kitOne K (.ref D) c = some false) (k : PySem.W.kitAny K (.ref D) r = some b) : PySem.W.kitAny K (.ref D) (c :: r) = some b := by
  unfold PySem.W.kitAny; rw [h]; exact k
/-! tables -/
def ExTbl (K : Fg) (mg : Str → Option Value) (tbl : List (Str × Bool)) (c : Value) : Prop := ∀ n b, (n, b) ∈ tbl → ∀ D, clOf mg n = some D → PySem.W.exmOne K (.ref D) c = some b
theorem exTbl_nil {c : Value} : ExTbl K mg [] c := fun n b h => by simp at h
theorem exTbl_cons {c : Value} {tbl : List (Str × Bool)} (g : ClsN K mg n C) (h : PySem.W.exmOne K (.ref C) c = some b) (r : ExTbl K mg tbl c) : ExTbl K mg ((n, b) :: tbl) c := fun n' b' hin D hD => by
  rcases List.mem_cons.mp hin with e | e
  · cases e
    rw [clOf_of g.g] at hD
    cases hD
    exact h
  · exact r n' b' e D hD
theorem isTbl_nil {cvs : List Value} : IsTbl K ⟨K, clOf mg, w⟩ [] cvs := fun n b h => by simp at h
theorem isTbl_cons {cvs : List Value} {tbl : List (Str × Bool)} (g : ClsN K mg n C) (x : ClsR K C) (h : PySem.W.kitAny K (.ref C) cvs = some b) (r : IsTbl K ⟨K, clOf mg, w⟩ tbl cvs) : IsTbl K ⟨K, clOf mg, w⟩ ((n, b) :: tbl) cvs := fun n' b' hin D hD => by
  rcases List.mem_cons.mp hin with e | e
  · cases e
    have hD' : clOf mg n = some D := hD
    rw [clOf_of g.g] at hD'
    cases hD'
    exact ⟨x.x g, h⟩
  · exact r n' b' e D hD
/-- what the text says of a class with an __init__ that keeps f -/
structure XFacts (K : Fg) (mg : Str → Option Value) (x f qual : Str) (st : Stmt) : Prop where
  ex : ∃ (C fI : Addr) (fd : FuncData), ClsN K mg x C ∧ OexC K C ∧ PySem.W.findIn K (.ref C) "__init__" = some (some (.ref fI)) ∧ PySem.W.typeIn K (.ref fI) = some (.type "function") ∧ PySem.W.findIn K (.ref C) f = some none ∧ Fun K "__init__" qual st fI fd
theorem oex_of {nm q : Str} {N : Addr} {bs bm : List Value} {sn : List Str} {sub : List Value} {ab : Bool} {col : Option Bool} {dd : Option Addr} {k0 k1 k2 k3 k5 : Option Value} (g : ClsN K mg n C)
    (h : K.lookup C = some (excClassObj nm q C N bs bm true sn sub ab col dd k0 k1 k2 k3 k5 "ValueError.__new__")) (hb : PySem.HandSPX.refsVE bm = true) (sa : PySem.W.findIn K (.ref C) "__setattr__" = some (some (.builtin "object.__setattr__"))) : OexC K C :=
  ⟨⟨nm, q, N, bs, bm, sn, sub, ab, col, dd, k0, k1, k2, k3, k5, h, hb⟩, sa, g.e, g.t, g.k⟩
end
theorem xinit_of {P : Program} {w : World} {K : Fg} {mg : Str → Option Value} {base : Heap} {x f qual : Str} {st : Stmt} {n0 n1 : Str} (h : XFacts K mg x f qual st) (S : FnScope [n0, n1] [n0, n1] (defScope st))
    (hbind : ∀ (kV doc pm : Value) (an : Option Addr) (cdv ct : Value) (us : List Value), us.length = 2 → bindArgs (PySem.W.fnOf "__init__" qual (defArgs st) (defBody st) (defScope st) .none kV doc pm an cdv ct) ⟨us, []⟩ = pure ([n0, n1].zip us))
    (hb : ∀ (cdv : Value) (A : Around) (outer : List PySem.Env) (s : Shared) (H : Hp) (E : XK) (fI : Addr), PSs (cxOf (L2.CX P w) P w K mg base [n0, n1] qual (defScope st) fI cdv A outer s H E) (defBody st) (tSeq (tOst K f (tVar 0) (tVar 1)) tNext)) : XInit P w K mg base (clOf mg) x f 1 := by
  obtain ⟨C, fI, fd, g, T, iC, tI, hno, F⟩ := h.ex
  exact ⟨C, fI, fd, [n0, n1], clOf_of g.g, g.g, T, iC, tI, hno, F.binds hbind, init_ok F S fun cdv A outer s H E => hb cdv A outer s H E fI⟩
/-! a new thing is closed for good -/
def fFz (a : FP) : FP := fun env => (a env).bind fun d => .ok (frz d)
end
end CV
namespace CV
open PySem L2
theorem fRaise0_e (n : Str) (env : Env) : fRaise0 n env = .exc ⟨n, [], []⟩ env := rfl
theorem fRaise1_e (n f : Str) (fe : FP) (env : Env) : fRaise1 n f fe env = (fe env).st env fun d => if clo d = true then .exc ⟨n, [f], [d]⟩ env else .bad := rfl
def tryR (tbl : List (Str × Bool)) (i : Nat) (fh : Exc → FS) : R → R
  | .exc x e => if i < e.length then (match tbl.lookup x.cl with
    | some true => (match fh x (e.set i .no) with
      | .nx e' => .nx (e'.set i .no)
      | _ => .bad)
    | some false => .exc x e
    | none => .bad) else .bad
  | r => r
theorem fTry_e (tbl : List (Str × Bool)) (i : Nat) (fb : FS) (fh : Exc → FS) (env : Env) : fTry tbl i fb fh env = tryR tbl i fh (fb env) := by
  unfold fTry
  cases fb env <;> rfl
theorem tryR_nx (tbl i fh e) : tryR tbl i fh (.nx e) = .nx e := rfl
theorem tryR_ret (tbl i fh d e) : tryR tbl i fh (.ret d e) = .ret d e := rfl
theorem tryR_exc (tbl : List (Str × Bool)) (i : Nat) (fh : Exc → FS) (x : Exc) (e : Env) : tryR tbl i fh (.exc x e) = if i < e.length then (match tbl.lookup x.cl with
    | some true => (match fh x (e.set i .no) with
      | .nx e' => .nx (e'.set i .no)
      | _ => .bad)
    | some false => .exc x e
    | none => .bad) else .bad := rfl
theorem fIsE_e (tbl : List (Str × Bool)) (x : Exc) (env : Env) : fIsE tbl x env = match tbl.lookup x.cl with
  | some b => .ok (.bl b)
  | none => .bad := rfl
theorem fXf_e (n f : Str) (x : Exc) (env : Env) : fXf n f x env = if x.cl = n then .of ((x.ns.zip x.ds).lookup f) else .bad := rfl
theorem fFz_e (a : FP) (env : Env) : fFz a env = (a env).bind fun d => .ok (frz d) := rfl
end CV
namespace CV
noncomputable section
open PySem L2
/-! ### what some names hold is closed for good ahead of a statement -/
def frz1 (env : Env) (j : Nat) : Env := match env[j]? with
  | some (.own d) => env.set j (.own (frz d))
  | _ => env
def frzE (env : Env) : List Nat → Env
  | [] => env
  | j :: js => frzE (frz1 env j) js
def fFrzS (js : List Nat) (fs : FS) : FS := fun env => fs (frzE env js)
theorem fFrzS_e (js : List Nat) (fs : FS) (env : Env) : fFrzS js fs env = fs (frzE env js) := rfl
theorem frzE_nil (env : Env) : frzE env [] = env := rfl
theorem frzE_cons (env : Env) (j : Nat) (js : List Nat) : frzE env (j :: js) = frzE (match env[j]? with
  | some (.own d) => env.set j (.own (frz d))
  | _ => env) js := rfl
theorem frzs_strs (l : List (List Nat)) : frzs (l.map D.str) = l.map D.str := frzs_clos (clos_strs l)
section
variable {c : Cn} {W : WX} {ts : TS} {fs : FS}
theorem Stt.frz1 {C H : Hp} {σ : L2.St} {env : Env} {T : List Ent} (s : Stt c C σ H env T) (j : Nat) : ∃ C', Stt c C' σ H (CV.frz1 env j) T ∧ Same C C' := by
  unfold CV.frz1
  cases h : env[j]? with
  | none => exact ⟨C, s, Same.refl _⟩
  | some z =>
    cases z with
    | no => exact ⟨C, s, Same.refl _⟩
    | bor d => exact ⟨C, s, Same.refl _⟩
    | pin => exact ⟨C, s, Same.refl _⟩
    | io d => exact ⟨C, s, Same.refl _⟩
    | own d =>
      obtain ⟨v, hv, s1⟩ := s.move h
      obtain ⟨C', w', k'⟩ := s1.w.frz
      exact ⟨C', Stt.back ⟨s1.e, w'⟩ hv, k'⟩
theorem Stt.frzE {H : Hp} {σ : L2.St} {T : List Ent} : ∀ (js : List Nat) {C : Hp} {env : Env}, Stt c C σ H env T → ∃ C', Stt c C' σ H (CV.frzE env js) T ∧ Same C C'
  | [], C, env, s => ⟨C, s, Same.refl _⟩
  | j :: js, C, env, s => by
    obtain ⟨C1, s1, k1⟩ := s.frz1 j
    obtain ⟨C2, s2, k2⟩ := Stt.frzE js s1
    exact ⟨C2, s2, k1.trans k2⟩
end
end
end CV
namespace CV
noncomputable section
open PySem L2
/-! ### o[a][b] = e -/
section
variable {c : Cn} {C H : Hp}
end
/-- the inner list -/
def pick1 (ds : List D) : D → Option (Nat × List D)
  | .int n => (ixN ds.length n).bind fun k => match ds[k]? with
    | some (.lst true es) => if clos es = true then some (k, es) else none
    | _ => none
  | _ => none
def put1 (es : List D) (e : D) : D → Option (List D)
  | .int n => if clo e = true then (ixN es.length n).map fun k => es.set k e else none
  | _ => none
def fStore2 (j : Nat) (fa fi fe : FP) : FS := fun env => (fe env).st env fun e => match env[j]? with
  | some (.own (.lst true ds)) => (fa env).st env fun i1 => (O.of (pick1 ds i1)).st env fun p => (fi env).st env fun i2 => (O.of (put1 p.2 e i2)).st env fun es' => .nx (env.set j (.own (.lst true (ds.set p.1 (.lst true es')))))
  | _ => .bad
theorem fStore2_e (j : Nat) (fa fi fe : FP) (env : Env) : fStore2 j fa fi fe env = ((fe env).st env fun e => match env[j]? with
  | some (.own (.lst true ds)) => (fa env).st env fun i1 => (O.of (pick1 ds i1)).st env fun p => (fi env).st env fun i2 => (O.of (put1 p.2 e i2)).st env fun es' => .nx (env.set j (.own (.lst true (ds.set p.1 (.lst true es')))))
  | _ => .bad) := rfl
section
variable {c : Cn} {W : WX} {te ti ta : TE} {fe fi fa : FP}
end
end
end CV
namespace CV
noncomputable section
open PySem L2
/-! ### {k: v, ..}: keys ints and texts, values closed -/
abbrev FPs := Env → O (List (Key × D))
def fpNil : FPs := fun _ => .ok []
def fpCons (a b : FP) (r : FPs) : FPs := fun env => (a env).bind fun k => (b env).bind fun d => (O.of (keyOf1 k)).bind fun kk => (r env).bind fun l => if clo d = true then .ok ((kk, d) :: l) else .bad
def mkDct (l : List (Key × D)) : Option D := @ite _ ((l.map (·.1)).Nodup ∧ l.length ≤ 15) (Classical.propDecidable _) (some (.dct true 0 (l.map fun p => KD.k p.1) (l.map (·.2)))) none
def fDisp (f : FPs) : FP := fun env => (f env).bind fun l => .of (mkDct l)
section
variable {c : Cn} {W : WX} {ta tb : TE} {fa fb : FP} {trs : List (TE × TE)} {fp : FPs}
end
end
end CV
namespace CV
open PySem L2
theorem fDisp_e (f : FPs) (env : Env) : fDisp f env = (f env).bind fun l => .of (mkDct l) := rfl
theorem fpNil_e (env : Env) : fpNil env = .ok [] := rfl
theorem fpCons_e (a b : FP) (r : FPs) (env : Env) : fpCons a b r env = (a env).bind fun k => (b env).bind fun d => (O.of (keyOf1 k)).bind fun kk => (r env).bind fun l => if clo d = true then .ok ((kk, d) :: l) else .bad := rfl
theorem keyOf1_i (i : Int) : keyOf1 (.int i) = some (.inl i) := rfl
theorem keyOf1_s (l : List Nat) : keyOf1 (.str l) = some (.inr (S l)) := rfl
end CV
/-! list(reversed(text)) -/
namespace RX
open PySem PySem.Spec PyProof.Rows RT
/-- at a the text x is gone through from its end, the next place i -/
def IsRs (h : Heap) (a : Addr) (x : Str) (t : Tok) (i : Int) : Prop := ∃ o, h.get? a = some o ∧ o.cls = .type "reversed" ∧ o.data = .fields #[.str x t, rawInt i]
section
variable {prog : Program} {w : World} {A : Around} {E : Value → Shared → Prop} {s : Shared} {x : Str} {t : Tok}
theorem IsRs.ty {a : Addr} {i : Int} : IsRs s.heap a x t i → s.TypeIs (.ref a) "reversed"
  | ⟨o, ho, hc, _⟩ => ⟨o, ho, hc⟩
end
end RX
namespace CV
noncomputable section
open PySem L2 PySem.Spec PyProof.Rows
section
variable {X : Cx} {e : Expr} {te : TE} {p p2 pos pos2 : Pos}
end
def gLRev : D → Option D
  | .str l => @ite _ (l.length ≤ 16777216) (Classical.propDecidable _) (some (.lst true (l.reverse.map fun a => .str [a]))) none
  | _ => none
def fLRev (a : FP) : FP := fun env => (a env).bind fun x => .of (gLRev x)
theorem fLRev_e (a : FP) (env : Env) : fLRev a env = (a env).bind fun x => .of (gLRev x) := rfl
section
variable {c : Cn} {W : WX} {ta : TE} {fa : FP}
end
end
end CV
namespace CV
open PySem L2
/-! a comprehension within one -/
end CV
namespace CV
noncomputable section
open PySem L2
/-! ### a for over a name whose list is open: the name is held while the loop runs -/
def unpin (j : Nat) (d : D) : R → R
  | .nx e => match e[j]? with
    | some .pin => .nx (e.set j (.own d))
    | _ => .bad
  | .ret x e => .ret x (e.set j .no)
  | .exc x e => .exc x (e.set j .no)
  | _ => .bad
def fForO (j : Nat) (fg : FG) (fb : FS) : FS := fun env => match env[j]? with
  | some (.own (.lst true ds)) => if clos ds = true then unpin j (.lst true ds) (loopF fg fb ds (env.set j .pin)) else .bad
  | _ => .bad
theorem fForO_e (j : Nat) (fg : FG) (fb : FS) (env : Env) : fForO j fg fb env = (match env[j]? with
  | some (.own (.lst true ds)) => if clos ds = true then unpin j (.lst true ds) (loopF fg fb ds (env.set j .pin)) else .bad
  | _ => .bad) := rfl
section
variable {c : Cn} {W : WX}
abbrev Cn.hold (c : Cn) (a : Nat → V) : Cn := { c with args := a }
theorem slots_no_less {σ : L2.St} {env : Env} {j : Nat} {A : List Ent} : ∃ R, (A ++ slotsE σ (env.set j .no) ++ R).Perm (A ++ slotsE σ env) := by
  obtain ⟨R, h⟩ := slots_no (σ := σ) (env := env) (i := j)
  exact ⟨R, by rw [List.append_assoc]; exact h.append_left A⟩
end
end
end CV
namespace CV
noncomputable section
open PySem L2
open PyProof.Rows (envOfC)
/-! ### a def that is not yet read (the end of a recursion), and texts in a global tuple -/
section
variable {P : Program} {w : World} {K : Fg} {mg : Str → Option Value} {base : Heap}
end
def fInG (n : Bool) (ss : List (List Nat)) (fe : FP) : FP := fun env => (fe env).bind fun d => match d with
  | .str l => .ok (.bl (if n = true then !decide (l ∈ ss) else decide (l ∈ ss)))
  | _ => .bad
theorem fInG_e (n : Bool) (ss : List (List Nat)) (fe : FP) (env : Env) : fInG n ss fe env = ((fe env).bind fun d => match d with
  | .str l => .ok (.bl (if n = true then !decide (l ∈ ss) else decide (l ∈ ss)))
  | _ => .bad) := rfl
section
variable {c : Cn} {W : WX} {te : TE} {fe : FP}
end
end
end CV
namespace CV
noncomputable section
open PySem L2
/-! ### xs.extend(ys) of a made list -/
def fExtend (i : Nat) (a : FP) : FS := fun env => match env[i]? with
  | some (.own (.lst true ds)) => (a env).st env fun e => match e with
    | .lst _ es => @ite _ (ds.length + es.length ≤ 16777216) (Classical.propDecidable _) (.nx (env.set i (.own (.lst true (ds ++ es))))) .bad
    | _ => .bad
  | _ => .bad
theorem fExtend_e (i : Nat) (a : FP) (env : Env) : fExtend i a env = (match env[i]? with
  | some (.own (.lst true ds)) => (a env).st env fun e => match e with
    | .lst _ es => @ite _ (ds.length + es.length ≤ 16777216) (Classical.propDecidable _) (.nx (env.set i (.own (.lst true (ds ++ es))))) .bad
    | _ => .bad
  | _ => .bad) := rfl
section
variable {c : Cn} {W : WX} {te : TE} {fe : FP}
end
end
end CV
namespace CV
noncomputable section
open PySem L2
/-! ### a text told some times -/
def rRepS : R2 := fun x y H Q => ∃ i k, x = .str i ∧ y = .int k ∧ -(2 ^ 63) ≤ k ∧ k < 2 ^ 63 ∧ i.length * k.toNat ≤ sizeLine ∧ Q (.str (Txt.mul i k)) H
theorem op_repS {X : Cx} : OpR X (binaryOp .Mult) rRepS := by
  intro pins s σ H x y v u Q I rx ry h
  obtain ⟨i, k, rfl, rfl, h1, h2, hz, q⟩ := h
  obtain ⟨t, rfl⟩ := rx
  obtain ⟨t', rfl⟩ := ry
  refine SB.mul ⟨?_, ?_, ?_⟩ fun t' k => ⟨.str _, H, I.tok _, ⟨_, rfl⟩, q⟩
  · rw [decide_eq_false (by omega), decide_eq_false (by omega)]; rfl
  · intro n1 _
    have hk : (0 : Int) < k := by omega
    have ek : k = (k.toNat : Int) := by omega
    have hz' : (i.length : Int) * k ≤ 16777216 := by
      have hz2 : i.length * k.toNat ≤ 16777216 := hz
      have := Int.ofNat_le.mpr hz2
      rw [Int.natCast_mul, ← ek] at this
      exact this
    have : (i.length : Int) ≤ (2 ^ 63 - 1) / k := Int.le_ediv_of_mul_le hk (by omega)
    omega
  · intro _ _
    exact PyProof.Rows.short24 hz
def uMulS : R2 := fun x y H Q => uMul x y H Q ∨ rRepS x y H Q
theorem op_uMulS {X : Cx} : OpR X (binaryOp .Mult) uMulS := op_uMul.or op_repS
def gMulS : D → D → Option D
  | .str l, .int k => @ite _ (-9223372036854775808 ≤ k ∧ k < 9223372036854775808 ∧ l.length * k.toNat ≤ 16777216) (Classical.propDecidable _) (some (.str (List.replicate k.toNat l).flatten)) none
  | d, e => gMul d e
theorem foldl_repN (its : List Nat) : ∀ (k : Nat) (acc : List Nat),
    List.foldl (fun x1 x2 => x1 ++ x2) acc.toArray (List.replicate k its.toArray) = (acc ++ (List.replicate k its).flatten).toArray
  | 0, acc => by simp
  | k + 1, acc => by
    have e : acc.toArray ++ its.toArray = (acc ++ its).toArray := by simp
    have e2 : (acc ++ its) ++ (List.replicate k its).flatten = acc ++ (List.replicate (k + 1) its).flatten := by
      rw [List.replicate_succ, List.flatten_cons, List.append_assoc]
    rw [← e2, ← foldl_repN its k (acc ++ its), ← e, List.replicate_succ, List.foldl_cons]
theorem mul_S (l : List Nat) (k : Int) : Txt.mul (S l) k = S (List.replicate k.toNat l).flatten := by
  unfold Txt.mul
  by_cases h1 : k < 1
  · rw [if_pos h1, show k.toNat = 0 by omega]; rfl
  · rw [if_neg h1]
    by_cases h2 : (k == 1 || (S l).length == 0) = true
    · rw [if_pos h2]
      rw [Bool.or_eq_true] at h2
      rcases h2 with h2 | h2
      · have : k = 1 := by simpa using h2
        subst this
        simp
      · have : l = [] := by simpa [S_len] using h2
        subst this
        simp
    · rw [if_neg h2]
      have := foldl_repN l k.toNat []
      rw [List.nil_append] at this
      exact congrArg Str.mk this
variable {c : Cn}
theorem og_mulS : OpG c uMulS gMulS := fun C H L x y d1 d2 d F1 F2 w r1 r2 e Q q => by
  have go : gMul d1 d2 = some d → uMulS x y H Q := fun e' => .inl (og_mul C H L x y d1 d2 d F1 F2 w r1 r2 e' Q q)
  cases d1 with
  | str l =>
    cases d2 with
    | int k =>
      dsimp only [gMulS] at e
      by_cases h : (-9223372036854775808 ≤ k ∧ k < 9223372036854775808 ∧ l.length * k.toNat ≤ 16777216)
      · rw [if_pos h] at e; cases e
        cases r1; cases r2
        refine .inr ⟨S l, k, rfl, rfl, h.1, h.2.1, by rw [S_len]; exact h.2.2, ?_⟩
        rw [mul_S]
        exact q _ H C (w.push (.str _)) (Same.refl _) (Same.refl _)
      · rw [if_neg h] at e; cases e
    | _ => exact go e
  | _ => exact go e
theorem gMulS_str {l : List Nat} {k : Int} (h1 : -9223372036854775808 ≤ k) (h2 : k < 9223372036854775808) (h : l.length * k.toNat ≤ 16777216) : gMulS (.str l) (.int k) = some (.str (List.replicate k.toNat l).flatten) := if_pos ⟨h1, h2, h⟩
end
end CV
namespace CV
noncomputable section
open PySem L2 PySem.Spec PyProof.Rows Srt
/-! ### sorted(d) of a dict whose keys are pairs of whole numbers -/
end
end CV
namespace CV
noncomputable section
open PySem L2
theorem RpFs.each {W : Wp} {C H : Hp} : ∀ {xs : List V} {ds : List D} {F : List Addr}, RpFs W C H xs ds F → F = [] → ∀ x ∈ xs, ∃ d ∈ ds, RpF W C H x d []
  | _, _, _, .nil, _, x, hx => by simp at hx
  | _, _, _, .cons a r, e, x, hx => by
    obtain ⟨e1, e2⟩ := List.append_eq_nil_iff.mp e
    subst e1
    rcases List.mem_cons.mp hx with q | q
    · subst q; exact ⟨_, List.mem_cons_self, a⟩
    · obtain ⟨d, hd, rd⟩ := RpFs.each r e2 x q
      exact ⟨d, List.mem_cons_of_mem _ hd, rd⟩
variable {c : Cn}
/-! ### pairs of whole numbers, one ahead of the other -/
end
end CV
namespace CV
open PySem PySem.Calls PyProof.Rows
/-! ### == of two dicts with keys of any depth, all of whose values are True -/
section
variable {prog : Program} {w : World} {A : Around} {E : Value → Shared → Prop} {s : Shared}
def found (rb : List Row) (x : Row) : Bool := (rowAtK rb x.1).isSome
end
end CV
namespace CV
noncomputable section
open PySem L2 PyProof.Rows
/-! ### len and == of dicts with keys of any depth -/
section
variable {prog : Program} {w : World} {A : Around} {E : Value → Shared → Prop} {s : Shared}
end
end
end CV
namespace CV
noncomputable section
open PySem L2
/-! ### their meanings -/
variable {c : Cn}
end
end CV
/-! list(reversed(list)) -/
namespace RX
open PySem PySem.Spec PyProof.Rows RT
section
variable {prog : Program} {w : World} {A : Around} {E : Value → Shared → Prop} {s : Shared}
end
end RX
namespace CV
noncomputable section
open PySem L2 PySem.Spec PyProof.Rows RT
section
variable {X : Cx} {e : Expr} {te : TE} {p p2 pos pos2 : Pos}
end
def gLRevL : D → Option D
  | .lst _ ds => if clos ds = true then some (.lst true ds.reverse) else none
  | _ => none
def fLRevL (a : FP) : FP := fun env => (a env).bind fun x => .of (gLRevL x)
theorem fLRevL_e (a : FP) (env : Env) : fLRevL a env = (a env).bind fun x => .of (gLRevL x) := rfl
section
variable {c : Cn} {W : WX} {ta : TE} {fa : FP}
end
end
end CV
namespace CV
noncomputable section
open PySem L2 PySem.Spec PyProof.Rows
/-! ### sorted(texts): of a dict's keys, of a list -/
def leT (a b : List Nat) : Bool := !ltCps b a
theorem leT_iff {a b : List Nat} : leT a b = true ↔ a ≤ b := by
  unfold leT
  rw [ltCps_eq]
  simp
theorem leT_trans (a b c : List Nat) (h1 : leT a b = true) (h2 : leT b c = true) : leT a c = true := leT_iff.mpr (List.le_trans (leT_iff.mp h1) (leT_iff.mp h2))
theorem leT_total (a b : List Nat) : (leT a b || leT b a) = true := by
  rw [Bool.or_eq_true, leT_iff, leT_iff]
  exact List.le_total a b
theorem leT_anti {a b : List Nat} (h1 : leT a b = true) (h2 : leT b a = true) : a = b := List.le_antisymm (leT_iff.mp h1) (leT_iff.mp h2)
theorem sortT_uniq {l m : List (List Nat)} (h1 : l.Pairwise fun p q => leT p q = true) (h2 : l.Perm m) : m.mergeSort leT = l :=
  (List.Perm.eq_of_pairwise (le := fun p q => leT p q = true) (fun a b _ _ => leT_anti) h1 (List.pairwise_mergeSort leT_trans leT_total m) (h2.trans (List.mergeSort_perm m leT).symm)).symm
theorem rising_pw : ∀ (l : List Str) (p : Str), risingS p l = true → (p :: l).Pairwise fun a b => leT a.cps.toList b.cps.toList = true
  | [], p, _ => by simp
  | x :: r, p, h => by
    unfold risingS at h
    rw [Bool.and_eq_true] at h
    have ih := rising_pw r x h.2
    refine List.pairwise_cons.mpr ⟨fun y hy => ?_, ih⟩
    rcases List.mem_cons.mp hy with e | e
    · rw [e]; exact h.1
    · exact leT_trans _ _ _ h.1 ((List.pairwise_cons.mp ih).1 y e)
theorem sorted_pw {l : List Str} (h : sortedS l = true) : l.Pairwise fun a b => leT a.cps.toList b.cps.toList = true := by
  cases l with
  | nil => exact List.Pairwise.nil
  | cons x r => exact rising_pw r x h
theorem sorted_eq {ys : List Str} {ls : List (List Nat)} (h1 : ys.Perm (ls.map S)) (h2 : sortedS ys = true) : ys = (ls.mergeSort leT).map S := by
  have p := h1.map fun z : Str => z.cps.toList
  have e : (ls.map S).map (fun z : Str => z.cps.toList) = ls := by
    rw [List.map_map]
    have : ((fun z : Str => z.cps.toList) ∘ S) = id := by funext l; simp [S]
    rw [this, List.map_id]
  rw [e] at p
  have u := sortT_uniq (l := ys.map fun z : Str => z.cps.toList) (List.pairwise_map.mpr (sorted_pw h2)) p
  rw [u, List.map_map]
  have : (S ∘ fun z : Str => z.cps.toList) = id := by funext z; exact S_tl z
  rw [this, List.map_id]
def txtsOf : List KD → Option (List (List Nat))
  | [] => some []
  | .k (.inr z) :: ks => (txtsOf ks).map (z.cps.toList :: ·)
  | _ => none
def gSortS : List D → Option D
  | [.dct _ 0 ks _] => (txtsOf ks).bind fun ls => if ls.length < 64 then some (.lst true ((ls.mergeSort leT).map .str)) else none
  | [.lst _ ds] => (strsOf ds).bind fun ls => if ls.length < 64 then some (.lst true ((ls.mergeSort leT).map .str)) else none
  | _ => none
def rSortD : List V → Hp → VK → Prop := fun xs H Q => ∃ (a : Addr) (kvs : List (Key × V)) (ks : List Str), xs = [.ref a] ∧ Rd H a (.dK kvs) ∧ kvs.map (·.1) = ks.map Sum.inr ∧ ks.length < 64 ∧
    ∀ ys p, ys.Perm ks → sortedS ys = true → H p = none → Q (.ref p) (upd H p (.lst (ys.map V.str)))
def uSortS (K : Fg) : List V → Hp → VK → Prop := fun xs H Q => rSortD xs H Q ∨ rSortedS K xs H Q
theorem call_sortS {X : Cx} (hc : X.calm = true) : CallR X (.builtin "sorted") (uSortS X.K) := CallR.or (call_sortedD hc) cr_sortedS
theorem txts_keys : ∀ {kvs : List (Key × V)} {ls : List (List Nat)}, txtsOf (kvs.map fun q => KD.k q.1) = some ls → kvs.map (·.1) = (ls.map S).map Sum.inr
  | [], ls, h => by cases h; rfl
  | q :: kvs, ls, h => by
    obtain ⟨k, v⟩ := q
    match k, h with
    | .inr z, h =>
      obtain ⟨ls', e1, e2⟩ := Option.map_eq_some_iff.mp (show (txtsOf (kvs.map fun q => KD.k q.1)).map (z.cps.toList :: ·) = some ls from h)
      subst e2
      rw [List.map_cons, List.map_cons, List.map_cons, txts_keys e1, S_tl]
theorem rps_str {W : Wp} {C H : Hp} : ∀ (ls : List (List Nat)), RpFs W C H ((ls.map S).map V.str) (ls.map D.str) []
  | [] => .nil
  | l :: ls => RpFs.cons (F := []) (G := []) (.str l) (rps_str ls)
variable {c : Cn}
theorem rps_strsOf {W : Wp} {C H : Hp} : ∀ {ds : List D} {xs : List V} {F : List Addr} {ls : List (List Nat)}, strsOf ds = some ls → RpFs W C H xs ds F → xs = (ls.map S).map V.str
  | [], xs, F, ls, h, r => by cases h; cases r; rfl
  | d :: ds, xs, F, ls, h, r => by
    cases r with
    | cons a r =>
      cases d with
      | str l =>
        obtain ⟨ls', e1, e2⟩ := Option.map_eq_some_iff.mp (show (strsOf ds).map (l :: ·) = some ls from h)
        subst e2
        cases a
        rw [List.map_cons, List.map_cons, rps_strsOf e1 r]
      | _ => cases h
theorem cg_sortS : CallG c (uSortS c.K) gSortS := fun C H L vs ds d F w r e Q q => by
  have fin : ∀ {ls : List (List Nat)} {ys : List Str} {p : Addr}, ys.Perm (ls.map S) → sortedS ys = true → H p = none → d = .lst true ((ls.mergeSort leT).map .str) → Q (.ref p) (upd H p (.lst (ys.map V.str))) := fun {ls ys p} h1 h2 hp ed => by
    subst ed
    rw [sorted_eq h1 h2]
    exact q _ _ C (w.newLst hp (rps_str _)) (Same.refl _) (same_upd hp)
  have dic : ∀ (p : Addr) (ks : List KD) (xs : List V), vs = [.ref p] → DicAt H 0 p ks xs → ((txtsOf ks).bind fun ls => if ls.length < 64 then some (D.lst true ((ls.mergeSort leT).map .str)) else none) = some d → uSortS c.K vs H Q := fun p ks xs ev hd e => by
    subst ev
    obtain ⟨ls, e1, e2⟩ := Option.bind_eq_some_iff.mp e
    by_cases h : ls.length < 64
    · rw [if_pos h] at e2
      cases e2
      rcases hd with ⟨_, kvs, a, b, _⟩ | ⟨z, _⟩
      · rw [b] at e1
        exact .inl ⟨p, kvs, ls.map S, rfl, .inl a, txts_keys e1, by rw [List.length_map]; exact h, fun ys p' h1 h2 hp => fin h1 h2 hp rfl⟩
      · cases z
    · rw [if_neg h] at e2; cases e2
  cases ds with
  | nil => cases e
  | cons d1 ds =>
    cases ds with
    | cons d2 ds =>
      exfalso
      cases d1 with
      | dct o t ks es =>
        match t, e with
        | 0, e => cases e
        | n + 1, e => cases e
      | _ => cases e
    | nil =>
      obtain ⟨v, rfl, rv⟩ := rps1 r
      cases d1 with
      | dct o t ks es =>
        match t, e, rv with
        | 0, e, rv =>
          cases rv with
          | dic h1 h2 => exact dic _ _ _ rfl (h1.mono (.inr fun o q => w.sub _ _ q)) e
          | dio h1 h2 => exact dic _ _ _ rfl h1 e
        | n + 1, e, _ => cases e
      | lst o es =>
        obtain ⟨ls, e1, e2⟩ := Option.bind_eq_some_iff.mp (show ((strsOf es).bind fun ls => if ls.length < 64 then some (D.lst true ((ls.mergeSort leT).map .str)) else none) = some d from e)
        by_cases h : ls.length < 64
        · rw [if_pos h] at e2
          cases e2
          obtain ⟨a, xs, G1, rfl, h1, a1⟩ := rv.tr w.sub
          have ex := rps_strsOf e1 a1
          subst ex
          exact .inr ⟨a, ls.map S, rfl, .inl (.inl h1), by rw [List.length_map]; exact h, fun ys p' g1 g2 hp => fin g1 g2 hp rfl⟩
        · rw [if_neg h] at e2; cases e2
      | _ => cases e
end
end CV
namespace CV
noncomputable section
open PySem L2
/-! ### places: an own list's item, an own instance's field -/
inductive Stp where
  | ix (k : Nat) | fld (k : Nat)
def getP : List Stp → D → Option D
  | [], d => some d
  | .ix k :: p, .lst true ds => (ds[k]?).bind (getP p)
  | .fld k :: p, .ins true _ _ ds => (ds[k]?).bind (getP p)
  | _, _ => none
def setP : List Stp → D → D → D
  | [], _, e => e
  | .ix k :: p, .lst true ds, e => .lst true (ds.set k (setP p (ds.getD k .non) e))
  | .fld k :: p, .ins true n fs ds, e => .ins true n fs (ds.set k (setP p (ds.getD k .non) e))
  | _, d, _ => d
inductive WalkP (H : Hp) : List Stp → V → V → Prop
  | nil {v : V} : WalkP H [] v v
  | ix {p : Addr} {xs : List V} {k : Nat} {v w : V} {r : List Stp} : H p = some (.lst xs) → xs[k]? = some v → WalkP H r v w → WalkP H (.ix k :: r) (.ref p) w
  | fld {p Ca dx : Addr} {fs : List (Str × V)} {f : Str} {k : Nat} {v w : V} {r : List Stp} : H p = some (.ins Ca dx fs) → fs[k]? = some (f, v) → WalkP H r v w → WalkP H (.fld k :: r) (.ref p) w
/-- what is put back at a place -/
def Back (W : Wp) (C H : Hp) (v v' : V) (F G : List Addr) (put : D → D) : Prop :=
  ∀ (C' H' : Hp) (e' : D) (G' : List Addr), Same C C' → (∀ a ∈ F, a ∉ G → H' a = H a) → RpF W C' H' v' e' G' → G'.Nodup → (∀ a ∈ G', a ∈ F → a ∈ G) → ∃ F', RpF W C' H' v (put e') F' ∧ F'.Nodup ∧ ∀ a ∈ F', (a ∈ F ∧ a ∉ G) ∨ a ∈ G'
theorem RpFs.focus {W : Wp} {C H : Hp} : ∀ {xs : List V} {ds : List D} {F : List Addr} {k : Nat} {d : D}, RpFs W C H xs ds F → ds[k]? = some d → F.Nodup → ∃ v G, xs[k]? = some v ∧ RpF W C H v d G ∧ G.Nodup ∧ (∀ a ∈ G, a ∈ F) ∧
    ∀ (C' H' : Hp) (e' : D) (G' : List Addr), Same C C' → (∀ a ∈ F, a ∉ G → H' a = H a) → RpF W C' H' v e' G' → G'.Nodup → (∀ a ∈ G', a ∈ F → a ∈ G) → ∃ F', RpFs W C' H' xs (ds.set k e') F' ∧ F'.Nodup ∧ ∀ a ∈ F', (a ∈ F ∧ a ∉ G) ∨ a ∈ G'
  | _, _, _, _, _, .nil, e, _ => by simp at e
  | _, _, _, 0, d, .cons (F := F1) (G := F2) h t, e, nd => by
    have e' := Option.some.inj (show some _ = some _ from e)
    subst e'
    obtain ⟨n1, n2, n3⟩ := List.nodup_append.mp nd
    refine ⟨_, F1, rfl, h, n1, fun a ha => List.mem_append_left _ ha, fun C' H' e' G' sc sh r ng dj => ?_⟩
    have off : ∀ a ∈ F2, a ∉ F1 := fun a ha hb => n3 a hb a ha rfl
    refine ⟨G' ++ F2, RpFs.cons r (t.mono sc fun a ha => sh a (List.mem_append_right _ ha) (off a ha)), ?_, fun a ha => ?_⟩
    · refine List.nodup_append.mpr ⟨ng, n2, fun a ha b hb z => ?_⟩
      subst z
      exact off a hb (dj a ha (List.mem_append_right _ hb))
    · rcases List.mem_append.mp ha with q | q
      · exact .inr q
      · exact .inl ⟨List.mem_append_right _ q, off a q⟩
  | _, _, _, k + 1, d, .cons (F := F1) (G := F2) h t, e, nd => by
    obtain ⟨n1, n2, n3⟩ := List.nodup_append.mp nd
    obtain ⟨v, G, h1, h2, h3, h4, h5⟩ := RpFs.focus t (k := k) (by simpa using e) n2
    have off : ∀ a ∈ F1, a ∉ G := fun a ha hb => n3 a ha a (h4 a hb) rfl
    refine ⟨v, G, by simpa using h1, h2, h3, fun a ha => List.mem_append_right _ (h4 a ha), fun C' H' e' G' sc sh r ng dj => ?_⟩
    obtain ⟨F', q1, q2, q3⟩ := h5 C' H' e' G' sc (fun a ha hb => sh a (List.mem_append_right _ ha) hb) r ng (fun a ha hb => dj a ha (List.mem_append_right _ hb))
    refine ⟨F1 ++ F', RpFs.cons (h.mono sc fun a ha => sh a (List.mem_append_left _ ha) (off a ha)) q1, ?_, fun a ha => ?_⟩
    · refine List.nodup_append.mpr ⟨n1, q2, fun a ha b hb z => ?_⟩
      subst z
      rcases q3 a hb with ⟨u, _⟩ | u
      · exact n3 a ha a u rfl
      · exact off a ha (dj a u (List.mem_append_left _ ha))
    · rcases List.mem_append.mp ha with q | q
      · exact .inl ⟨List.mem_append_left _ q, off a q⟩
      · rcases q3 a q with ⟨u, w⟩ | u
        · exact .inl ⟨List.mem_append_right _ u, w⟩
        · exact .inr u
theorem RpF.focus {W : Wp} {C H : Hp} : ∀ (p : List Stp) {v : V} {d e : D} {F : List Addr}, RpF W C H v d F → getP p d = some e → F.Nodup → ∃ v' G, WalkP H p v v' ∧ RpF W C H v' e G ∧ G.Nodup ∧ (∀ a ∈ G, a ∈ F) ∧ Back W C H v v' F G (setP p d)
  | [], v, d, e, F, r, h, nd => by
    have h' := Option.some.inj (show some _ = some _ from h)
    subst h'
    exact ⟨v, F, .nil, r, nd, fun a ha => ha, fun C' H' e' G' sc sh r' ng dj => ⟨G', r', ng, fun a ha => .inr ha⟩⟩
  | .ix k :: p, v, d, e, F, r, h, nd => by
    cases d with
    | lst o ds =>
      cases o with
      | false => cases h
      | true =>
        obtain ⟨d1, h1, h2⟩ := Option.bind_eq_some_iff.mp (show (ds[k]?).bind (getP p) = some e from h)
        cases r with
        | @own q xs _ F0 hq rs =>
          obtain ⟨nq, n0⟩ := List.nodup_cons.mp nd
          obtain ⟨v1, G1, a1, a2, a3, a4, a5⟩ := rs.focus h1 n0
          obtain ⟨v', G, b1, b2, b3, b4, b5⟩ := RpF.focus p a2 h2 a3
          refine ⟨v', G, .ix hq a1 b1, b2, b3, fun a ha => List.mem_cons_of_mem _ (a4 a (b4 a ha)), fun C' H' e' G' sc sh r' ng dj => ?_⟩
          obtain ⟨F1, c1, c2, c3⟩ := b5 C' H' e' G' sc (fun a ha hb => sh a (List.mem_cons_of_mem _ (a4 a ha)) hb) r' ng (fun a ha hb => dj a ha (List.mem_cons_of_mem _ (a4 a hb)))
          obtain ⟨F2, d1', d2, d3⟩ := a5 C' H' _ F1 sc (fun a ha hb => sh a (List.mem_cons_of_mem _ ha) fun z => hb (b4 a z)) c1 c2 (fun a ha hb => (c3 a ha).elim (fun z => z.1) fun z => b4 a (dj a z (List.mem_cons_of_mem _ hb)))
          have back : ∀ a ∈ F2, (a ∈ F0 ∧ a ∉ G) ∨ a ∈ G' := fun a ha => by
            rcases d3 a ha with ⟨u, w⟩ | u
            · exact .inl ⟨u, fun z => w (b4 a z)⟩
            · rcases c3 a u with ⟨y, z⟩ | y
              · exact .inl ⟨a4 a y, z⟩
              · exact .inr y
          have hq' : q ∉ G := fun z => nq (a4 q (b4 q z))
          have eq : setP (.ix k :: p) (.lst true ds) e' = .lst true (ds.set k (setP p d1 e')) := by
            show D.lst true (ds.set k (setP p (ds.getD k .non) e')) = _
            rw [List.getD_eq_getElem?_getD, h1]; rfl
          rw [eq]
          refine ⟨q :: F2, .own ((sh q (by simp) hq').trans hq) d1', List.nodup_cons.mpr ⟨fun z => ?_, d2⟩, fun a ha => ?_⟩
          · rcases back q z with ⟨u, _⟩ | u
            · exact nq u
            · exact hq' (dj q u (by simp))
          · rcases List.mem_cons.mp ha with z | z
            · subst z; exact .inl ⟨by simp, hq'⟩
            · rcases back a z with ⟨u, w⟩ | u
              · exact .inl ⟨List.mem_cons_of_mem _ u, w⟩
              · exact .inr u
    | _ => cases h
  | .fld k :: p, v, d, e, F, r, h, nd => by
    cases d with
    | ins o n fs ds =>
      cases o with
      | false => cases h
      | true =>
        obtain ⟨d1, h1, h2⟩ := Option.bind_eq_some_iff.mp (show (ds[k]?).bind (getP p) = some e from h)
        cases r with
        | @ino q dx Ca _ fvs _ F0 hn hq hx rs =>
          obtain ⟨nq, nd1⟩ := List.nodup_cons.mp nd
          obtain ⟨nx, n0⟩ := List.nodup_cons.mp nd1
          obtain ⟨v1, G1, a1, a2, a3, a4, a5⟩ := rs.focus h1 n0
          obtain ⟨v', G, b1, b2, b3, b4, b5⟩ := RpF.focus p a2 h2 a3
          rw [List.getElem?_map] at a1
          obtain ⟨fv, f1, f2⟩ := Option.map_eq_some_iff.mp a1
          obtain ⟨fn, fvv⟩ := fv
          have f2 : fvv = v1 := f2
          subst f2
          have inF : ∀ a ∈ F0, a ∈ q :: dx :: F0 := fun a ha => List.mem_cons_of_mem _ (List.mem_cons_of_mem _ ha)
          refine ⟨v', G, .fld hq f1 b1, b2, b3, fun a ha => inF a (a4 a (b4 a ha)), fun C' H' e' G' sc sh r' ng dj => ?_⟩
          obtain ⟨F1, c1, c2, c3⟩ := b5 C' H' e' G' sc (fun a ha hb => sh a (inF a (a4 a ha)) hb) r' ng (fun a ha hb => dj a ha (inF a (a4 a hb)))
          obtain ⟨F2, d1', d2, d3⟩ := a5 C' H' _ F1 sc (fun a ha hb => sh a (inF a ha) fun z => hb (b4 a z)) c1 c2 (fun a ha hb => (c3 a ha).elim (fun z => z.1) fun z => b4 a (dj a z (inF a hb)))
          have back : ∀ a ∈ F2, (a ∈ F0 ∧ a ∉ G) ∨ a ∈ G' := fun a ha => by
            rcases d3 a ha with ⟨u, w⟩ | u
            · exact .inl ⟨u, fun z => w (b4 a z)⟩
            · rcases c3 a u with ⟨y, z⟩ | y
              · exact .inl ⟨a4 a y, z⟩
              · exact .inr y
          have hxG : dx ∉ G := fun z => nx (a4 dx (b4 dx z))
          have hqG : q ∉ G := fun z => nq (List.mem_cons_of_mem _ (a4 q (b4 q z)))
          have hqx : q ≠ dx := fun z => nq (by rw [z]; simp)
          have eq : setP (.fld k :: p) (.ins true n (fvs.map (·.1)) ds) e' = .ins true n (fvs.map (·.1)) (ds.set k (setP p d1 e')) := by
            show D.ins true n _ (ds.set k (setP p (ds.getD k .non) e')) = _
            rw [List.getD_eq_getElem?_getD, h1]; rfl
          rw [eq]
          have notin : ∀ a, a ∈ q :: dx :: F0 → a ∉ G → a ∉ F0 → a ∉ F2 := fun a h3 h4 h5 z => by
            rcases back a z with ⟨u, _⟩ | u
            · exact h5 u
            · exact h4 (dj a u h3)
          refine ⟨q :: dx :: F2, .ino hn ((sh q (by simp) hqG).trans hq) ((sh dx (by simp) hxG).trans hx) d1', ?_, fun a ha => ?_⟩
          · refine List.nodup_cons.mpr ⟨fun z => ?_, List.nodup_cons.mpr ⟨notin dx (by simp) hxG nx, d2⟩⟩
            rcases List.mem_cons.mp z with y | y
            · exact hqx y
            · exact notin q (by simp) hqG (fun y => nq (List.mem_cons_of_mem _ y)) y
          · rcases List.mem_cons.mp ha with z | z
            · subst z; exact .inl ⟨by simp, hqG⟩
            · rcases List.mem_cons.mp z with z | z
              · subst z; exact .inl ⟨by simp, hxG⟩
              · rcases back a z with ⟨u, w⟩ | u
                · exact .inl ⟨inF a u, w⟩
                · exact .inr u
    | _ => cases h
end
end CV
namespace CV
noncomputable section
open PySem L2
variable {c : Cn} {C H : Hp}
/-- one object at a place is changed -/
theorem Wld.putAt {L : List Ent} {v : V} {d e : D} {p : List Stp} (k : Wld c C H ((v, d) :: L)) (hp : getP p d = some e) : ∃ v', WalkP H p v v' ∧ (∃ G, RpF c.W C H v' e G) ∧
    ∀ (q : Addr) (o' : HO) (e' : D), (∀ G, RpF c.W C H v' e G → G.Nodup → q ∈ G ∧ RpF c.W C (upd H q o') v' e' G) → Wld c C (upd H q o') ((v, setP p d e') :: L) := by
  obtain ⟨F, h1, h2, h3⟩ := k.own
  unfold RpE at h1
  cases h1 with
  | @cons _ _ _ _ F0 F1 a1 a2 =>
    obtain ⟨n1, n2, n3⟩ := List.nodup_append.mp h2
    obtain ⟨v', G, b1, b2, b3, b4, b5⟩ := RpF.focus p a1 hp n1
    refine ⟨v', b1, ⟨G, b2⟩, fun q o' e' hr => ?_⟩
    obtain ⟨hq, r'⟩ := hr G b2 b3
    obtain ⟨F', f1, f2, f3⟩ := b5 C (upd H q o') e' G (Same.refl _) (fun a ha hb => upd_ne fun z => hb (by rw [z]; exact hq)) r' b3 (fun a ha _ => ha)
    have sub : ∀ a ∈ F', a ∈ F0 := fun a ha => (f3 a ha).elim (·.1) (b4 a)
    have hq0 := b4 q hq
    have np : ∀ a ∈ F1, a ≠ q := fun a ha z => n3 q hq0 a ha z.symm
    have pf := h3 q (List.mem_append_left _ hq0)
    refine ⟨fun a u hm e => ?_, fun a u e => ?_, k.ext, k.new, fun a ha => ?_, F' ++ F1, RpFs.cons f1 (RpFs.mono (Same.refl _) (fun a ha => upd_ne (np a ha)) a2), List.nodup_append.mpr ⟨f2, n2, fun a ha b hb => n3 a (sub a ha) b hb⟩, fun a ha => ?_⟩
    · by_cases z : a = q
      · rw [z] at hm e
        rcases pf.2 with y | y
        · exact absurd y hm
        · rw [y] at e; cases e
      · rw [upd_ne z]; exact k.same a u hm e
    · by_cases z : a = q
      · rw [z, pf.1] at e; cases e
      · rw [upd_ne z]; exact k.sub a u e
    · by_cases z : a = q
      · rw [z, upd_same]; exact fun y => by cases y
      · rw [upd_ne z]; exact k.old a ha
    · rcases List.mem_append.mp ha with z | z
      · exact h3 a (List.mem_append_left _ (sub a z))
      · exact h3 a (List.mem_append_right _ z)
end
end CV
namespace CV
noncomputable section
open PySem L2
/-! ### several places at once; what slots hold is taken out and put back -/
theorem WalkP.mono {H H' : Hp} (t : Same H H') : ∀ {p : List Stp} {v w : V}, WalkP H p v w → WalkP H' p v w
  | _, _, _, .nil => .nil
  | _, _, _, .ix a b r => .ix (t _ _ a) b (r.mono t)
  | _, _, _, .fld a b r => .fld (t _ _ a) b (r.mono t)
theorem WalkP.det {H : Hp} : ∀ {p : List Stp} {v w w' : V}, WalkP H p v w → WalkP H p v w' → w = w'
  | _, _, _, _, .nil, .nil => rfl
  | _, _, _, _, .ix a b r, .ix a' b' r' => by
    rw [a] at a'
    have e : _ = _ := Option.some.inj a'
    injection e with e
    subst e
    rw [b] at b'
    cases b'
    exact r.det r'
  | _, _, _, _, .fld a b r, .fld a' b' r' => by
    rw [a] at a'
    have e : _ = _ := Option.some.inj a'
    injection e with _ _ e
    subst e
    rw [b] at b'
    cases b'
    exact r.det r'
theorem WalkP.snoc {H : Hp} : ∀ {p : List Stp} {v w : V}, WalkP H p v w → ∀ {s : Stp} {u : V}, WalkP H [s] w u → WalkP H (p ++ [s]) v u
  | _, _, _, .nil, _, _, k => k
  | _, _, _, .ix a b r, _, _, k => .ix a b (r.snoc k)
  | _, _, _, .fld a b r, _, _, k => .fld a b (r.snoc k)
theorem getP_snoc {s : Stp} : ∀ {p : List Stp} {d e : D}, getP p d = some e → getP (p ++ [s]) d = getP [s] e
  | [], d, e, h => by cases h; rfl
  | .ix k :: p, d, e, h => by
    cases d with
    | lst o ds =>
      cases o with
      | false => cases h
      | true =>
        obtain ⟨d1, h1, h2⟩ := Option.bind_eq_some_iff.mp (show (ds[k]?).bind (getP p) = some e from h)
        show (ds[k]?).bind (getP (p ++ [s])) = _
        rw [h1]
        exact getP_snoc h2
    | _ => cases h
  | .fld k :: p, d, e, h => by
    cases d with
    | ins o n ns ds =>
      cases o with
      | false => cases h
      | true =>
        obtain ⟨d1, h1, h2⟩ := Option.bind_eq_some_iff.mp (show (ds[k]?).bind (getP p) = some e from h)
        show (ds[k]?).bind (getP (p ++ [s])) = _
        rw [h1]
        exact getP_snoc h2
    | _ => cases h
/-- the things at these places -/
def getPs : List (List Stp) → List D → Option (List D)
  | [], [] => some []
  | p :: ps, d :: ds => (getP p d).bind fun e => (getPs ps ds).map (e :: ·)
  | _, _ => none
def setPs : List (List Stp) → List D → List D → List D
  | p :: ps, d :: ds, e :: es => setP p d e :: setPs ps ds es
  | _, _, _ => []
inductive WalkPs (H : Hp) : List (List Stp) → List V → List V → Prop
  | nil : WalkPs H [] [] []
  | cons {p : List Stp} {ps : List (List Stp)} {v w : V} {vs ws : List V} : WalkP H p v w → WalkPs H ps vs ws → WalkPs H (p :: ps) (v :: vs) (w :: ws)
theorem WalkPs.det {H : Hp} : ∀ {p : List (List Stp)} {v w w' : List V}, WalkPs H p v w → WalkPs H p v w' → w = w'
  | _, _, _, _, .nil, .nil => rfl
  | _, _, _, _, .cons a r, .cons a' r' => by rw [a.det a', r.det r']
theorem RpFs.focusL {W : Wp} {C H : Hp} : ∀ (ps : List (List Stp)) {vs : List V} {ds es : List D} {F : List Addr}, RpFs W C H vs ds F → getPs ps ds = some es → F.Nodup → ∃ ws G, WalkPs H ps vs ws ∧ RpFs W C H ws es G ∧ G.Nodup ∧ (∀ a ∈ G, a ∈ F) ∧
    ∀ (C' H' : Hp) (es' : List D) (G' : List Addr), Same C C' → (∀ a ∈ F, a ∉ G → H' a = H a) → RpFs W C' H' ws es' G' → G'.Nodup → (∀ a ∈ G', a ∈ F → a ∈ G) → ∃ F', RpFs W C' H' vs (setPs ps ds es') F' ∧ F'.Nodup ∧ ∀ a ∈ F', (a ∈ F ∧ a ∉ G) ∨ a ∈ G'
  | [], vs, ds, es, F, r, h, nd => by
    cases ds with
    | cons d ds => cases h
    | nil =>
      cases h
      cases r
      exact ⟨[], [], .nil, .nil, List.nodup_nil, fun a h => h, fun C' H' es' G' sc sh r' ng dj => by
        cases r'
        exact ⟨[], .nil, List.nodup_nil, fun a h => by simp at h⟩⟩
  | p :: ps, vs, ds, es, F, r, h, nd => by
    cases ds with
    | nil => cases h
    | cons d ds =>
      obtain ⟨e, h1, h2⟩ := Option.bind_eq_some_iff.mp (show (getP p d).bind (fun e => (getPs ps ds).map (e :: ·)) = some es from h)
      obtain ⟨es0, h3, h4⟩ := Option.map_eq_some_iff.mp h2
      subst h4
      cases r with
      | @cons v vs _ _ F1 F2 r1 r2 =>
        obtain ⟨n1, n2, n3⟩ := List.nodup_append.mp nd
        obtain ⟨w, G1, a1, a2, a3, a4, a5⟩ := RpF.focus p r1 h1 n1
        obtain ⟨ws, G2, b1, b2, b3, b4, b5⟩ := RpFs.focusL ps r2 h3 n2
        refine ⟨w :: ws, G1 ++ G2, .cons a1 b1, .cons a2 b2, List.nodup_append.mpr ⟨a3, b3, fun a ha b hb => n3 a (a4 a ha) b (b4 b hb)⟩, fun a ha => ?_, fun C' H' es' G' sc sh r' ng dj => ?_⟩
        · rcases List.mem_append.mp ha with z | z
          · exact List.mem_append_left _ (a4 a z)
          · exact List.mem_append_right _ (b4 a z)
        · cases r' with
          | @cons _ _ e' es' G1' G2' s1 s2 =>
            obtain ⟨m1, m2, m3⟩ := List.nodup_append.mp ng
            have x12 : ∀ a, a ∈ F1 → a ∈ F2 → False := fun a h1 h2 => n3 a h1 a h2 rfl
            have d1 : ∀ a, a ∈ G1' ++ G2' → a ∈ F1 → a ∈ G1 := fun a h1 h2 => (List.mem_append.mp (dj a h1 (List.mem_append_left _ h2))).elim id fun z => (x12 a h2 (b4 a z)).elim
            have d2 : ∀ a, a ∈ G1' ++ G2' → a ∈ F2 → a ∈ G2 := fun a h1 h2 => (List.mem_append.mp (dj a h1 (List.mem_append_right _ h2))).elim (fun z => (x12 a (a4 a z) h2).elim) id
            obtain ⟨F1', c1, c2, c3⟩ := a5 C' H' e' G1' sc (fun a ha hb => sh a (List.mem_append_left _ ha) fun z => (List.mem_append.mp z).elim hb fun y => x12 a ha (b4 a y)) s1 m1 (fun a ha hb => d1 a (List.mem_append_left _ ha) hb)
            obtain ⟨F2', e1, e2, e3⟩ := b5 C' H' es' G2' sc (fun a ha hb => sh a (List.mem_append_right _ ha) fun z => (List.mem_append.mp z).elim (fun y => x12 a (a4 a y) ha) hb) s2 m2 (fun a ha hb => d2 a (List.mem_append_right _ ha) hb)
            refine ⟨F1' ++ F2', .cons c1 e1, List.nodup_append.mpr ⟨c2, e2, fun a ha b hb z => ?_⟩, fun a ha => ?_⟩
            · subst z
              rcases c3 a ha with ⟨u, u'⟩ | u
              · rcases e3 a hb with ⟨y, y'⟩ | y
                · exact x12 a u y
                · exact u' (d1 a (List.mem_append_right _ y) u)
              · rcases e3 a hb with ⟨y, y'⟩ | y
                · exact y' (d2 a (List.mem_append_left _ u) y)
                · exact m3 a u a y rfl
            · rcases List.mem_append.mp ha with z | z
              · rcases c3 a z with ⟨u, u'⟩ | u
                · exact .inl ⟨List.mem_append_left _ u, fun y => (List.mem_append.mp y).elim u' fun y => x12 a u (b4 a y)⟩
                · exact .inr (List.mem_append_left _ u)
              · rcases e3 a z with ⟨u, u'⟩ | u
                · exact .inl ⟨List.mem_append_right _ u, fun y => (List.mem_append.mp y).elim (fun y => x12 a (a4 a y) u) u'⟩
                · exact .inr (List.mem_append_right _ u)
/-! ### slots that may be changed -/
def mutE (env : Env) (i : Nat) : Option D := match env[i]? with
  | some (.own d) => some d
  | some (.io d) => some d
  | _ => none
def kindE (env : Env) (i : Nat) (d : D) : Sl := match env[i]? with
  | some (.io _) => .io d
  | _ => .own d
def outE (env : Env) : List Nat → Env
  | [] => env
  | i :: is => outE (env.set i .no) is
def inE (k : Nat → D → Sl) (env : Env) : List Nat → List D → Env
  | i :: is, d :: ds => inE k (env.set i (k i d)) is ds
  | _, _ => env
def mutEs (env : Env) : List Nat → Option (List D)
  | [] => some []
  | i :: is => (mutE env i).bind fun d => (mutEs env is).map (d :: ·)
section
variable {c : Cn} {C H : Hp} {σ : L2.St} {env : Env} {T : List Ent}
theorem slots_giveIo {i : Nat} {v : V} {d : D} (h1 : σ[i]? = some (some v)) (h2 : i < env.length) : (slotsE σ (env.set i (.io d))).Perm ((v, d) :: slotsE σ (env.set i .no)) := by
  have q := slots_io (σ := σ) (env := env.set i (.io d)) (i := i) (v := v) (d := d) h1 (List.getElem?_set_self h2)
  rw [List.set_set, slots_pin] at q
  exact q.symm
theorem EnvOk.setIo {i : Nat} {d : D} (s : EnvOk c σ env) (hv : σ[i]? = some (some (c.args i))) : EnvOk c σ (env.set i (.io d)) := by
  refine ⟨by rw [List.length_set]; exact s.len, fun j d e => ?_, fun j d e => ?_, fun j e => ?_, fun j d e => ?_⟩
  all_goals
    by_cases hj : i = j
    · subst hj
      by_cases hl : i < env.length
      · rw [List.getElem?_set_self hl] at e
        first | (cases e; done) | exact hv
      · rw [List.getElem?_eq_none (by rw [List.length_set]; omega)] at e; cases e
    · rw [List.getElem?_set_ne hj] at e
      first | exact s.own j d e | exact s.bor j d e | exact s.pin j e | exact s.io j d e
theorem Stt.giveIo {i : Nat} {d : D} (s : Stt c C σ H env ((c.args i, d) :: T)) (hv : σ[i]? = some (some (c.args i))) : Stt c C σ H (env.set i (.io d)) T := by
  have hi : i < env.length := by rw [← s.e.len]; exact (List.getElem?_eq_some_iff.mp hv).1
  refine ⟨s.e.setIo hv, ?_⟩
  obtain ⟨R, hR⟩ := slots_no (σ := σ) (env := env) (i := i)
  refine s.w.less (R := R) ?_
  have p1 := slots_giveIo (d := d) hv hi
  refine ((p1.append_left T).append_right R).trans ?_
  have p3 : (T ++ ((c.args i, d) :: slotsE σ (env.set i .no)) ++ R).Perm (T ++ ((c.args i, d) :: slotsE σ env)) := by
    rw [List.append_assoc]
    exact (hR.cons _).append_left T
  exact p3.trans List.perm_middle
theorem Stt.giveOwn {i : Nat} {v : V} {d : D} (s : Stt c C σ H env ((v, d) :: T)) (hv : σ[i]? = some (some v)) : Stt c C σ H (env.set i (.own d)) T := by
  have q := s.set (i := i)
  rwa [set_self hv] at q
theorem Stt.takeM {i : Nat} {d : D} (s : Stt c C σ H env T) (h : mutE env i = some d) : ∃ v, σ[i]? = some (some v) ∧ Stt c C σ H (env.set i .no) ((v, d) :: T) ∧
    ∀ (C' H' : Hp) (env' : Env) (T' : List Ent) (d' : D), Stt c C' σ H' env' ((v, d') :: T') → Stt c C' σ H' (env'.set i (kindE env i d')) T' := by
  unfold mutE at h
  unfold kindE
  cases he : env[i]? with
  | none => rw [he] at h; cases h
  | some z =>
    rw [he] at h
    cases z with
    | own d0 =>
      cases h
      obtain ⟨v, hv, s1⟩ := s.move he
      exact ⟨v, hv, s1, fun C' H' env' T' d' s' => s'.giveOwn hv⟩
    | io d0 =>
      cases h
      have hv := s.e.io i d he
      refine ⟨_, hv, ⟨s.e.no', s.w.perm ?_⟩, fun C' H' env' T' d' s' => s'.giveIo hv⟩
      have q := slots_io hv he
      rw [slots_pin] at q
      exact List.perm_middle.symm.trans (q.append_left T)
    | _ => cases h
theorem mutE_ne {i j : Nat} {x : Sl} (h : i ≠ j) : mutE (env.set i x) j = mutE env j := by
  unfold mutE; rw [List.getElem?_set_ne h]
theorem kindE_ne {i j : Nat} {x : Sl} {d : D} (h : i ≠ j) : kindE (env.set i x) j d = kindE env j d := by
  unfold kindE; rw [List.getElem?_set_ne h]
theorem inE_congr {k k' : Nat → D → Sl} : ∀ {is : List Nat} {env : Env} {ds : List D}, (∀ i ∈ is, ∀ d, k i d = k' i d) → inE k env is ds = inE k' env is ds
  | [], env, ds, h => by cases ds <;> rfl
  | i :: is, env, [], h => rfl
  | i :: is, env, d :: ds, h => by
    show inE k (env.set i (k i d)) is ds = inE k' (env.set i (k' i d)) is ds
    rw [h i (by simp) d]
    exact inE_congr fun j hj => h j (by simp [hj])
theorem mutEs_ne {i : Nat} {x : Sl} : ∀ {is : List Nat}, i ∉ is → mutEs (env.set i x) is = mutEs env is
  | [], _ => rfl
  | j :: is, h => by
    show (mutE (env.set i x) j).bind _ = (mutE env j).bind _
    rw [mutE_ne fun z => h (by rw [z]; simp)]
    congr 1
    funext d
    rw [mutEs_ne fun z => h (by simp [z])]
/-- several slots are emptied; put back in the same turn -/
theorem Stt.takeL : ∀ (is : List Nat) {env : Env} {ds : List D} {T : List Ent}, is.Nodup → Stt c C σ H env T → mutEs env is = some ds → ∃ vs : List V, vs.length = ds.length ∧ is.map (σ[·]?) = vs.map (fun v => some (some v)) ∧ Stt c C σ H (outE env is) (vs.zip ds ++ T) ∧
    ∀ (C' H' : Hp) (env' : Env) (T' : List Ent) (ds' : List D), ds'.length = ds.length → Stt c C' σ H' env' (vs.zip ds' ++ T') → Stt c C' σ H' (inE (kindE env) env' is ds') T'
  | [], env, ds, T, _, s, h => by
    cases h
    exact ⟨[], rfl, rfl, s, fun C' H' env' T' ds' hl s' => by
      cases ds' with
      | nil => exact s'
      | cons => simp at hl⟩
  | i :: is, env, ds, T, nd, s, h => by
    obtain ⟨ni, nd'⟩ := List.nodup_cons.mp nd
    obtain ⟨d, h1, h2⟩ := Option.bind_eq_some_iff.mp (show (mutE env i).bind (fun d => (mutEs env is).map (d :: ·)) = some ds from h)
    obtain ⟨ds0, h3, h4⟩ := Option.map_eq_some_iff.mp h2
    subst h4
    obtain ⟨v, hv, s1, back⟩ := s.takeM h1
    obtain ⟨vs, hl, hm, s2, back2⟩ := Stt.takeL is nd' s1 (by rw [mutEs_ne ni]; exact h3)
    refine ⟨v :: vs, by simp [hl], by rw [List.map_cons, List.map_cons, hv, hm], ⟨s2.e, s2.w.perm ?_⟩, fun C' H' env' T' ds' hl' s' => ?_⟩
    · show ((v, d) :: (vs.zip ds0) ++ T ++ slotsE σ (outE (env.set i .no) is)).Perm (vs.zip ds0 ++ (v, d) :: T ++ slotsE σ (outE (env.set i .no) is))
      exact (List.perm_middle.symm).append_right _
    · cases ds' with
      | nil => simp at hl'
      | cons d' ds' =>
        have s3 := back C' H' env' (vs.zip ds' ++ T') d' s'
        have s4 := back2 C' H' _ T' ds' (by simpa using hl') s3
        show Stt c C' σ H' (inE (kindE env) (env'.set i (kindE env i d')) is ds') T'
        rw [inE_congr (k' := kindE (env.set i .no)) fun j hj d => (kindE_ne fun z => ni (by rw [z]; exact hj)).symm]
        exact s4
/-- one object at a place of a slot is changed -/
theorem Stt.at {i : Nat} {p : List Stp} {d e : D} (s : Stt c C σ H env T) (h : mutE env i = some d) (hp : getP p d = some e) : ∃ v v', σ[i]? = some (some v) ∧ WalkP H p v v' ∧ (∃ G, RpF c.W C H v' e G) ∧
    ∀ (q : Addr) (o' : HO) (e' : D), (∀ G, RpF c.W C H v' e G → G.Nodup → q ∈ G ∧ RpF c.W C (upd H q o') v' e' G) → Stt c C σ (upd H q o') (env.set i (kindE env i (setP p d e'))) T := by
  obtain ⟨v, hv, s1, back⟩ := s.takeM h
  obtain ⟨v', a1, a2, a3⟩ := s1.w.putAt (p := p) hp
  refine ⟨v, v', hv, a1, a2, fun q o' e' hr => ?_⟩
  have w' := a3 q o' e' hr
  have := back C (upd H q o') (env.set i .no) T _ ⟨s1.e, w'⟩
  rwa [List.set_set] at this
end
end
end CV
namespace CV
noncomputable section
open PySem L2
/-! ### fields of own instances; places that statements change -/
def fidx : List Str → Str → Option Nat
  | [], _ => none
  | n :: ns, f => if f = n then some 0 else (fidx ns f).map (· + 1)
theorem fidx_look {f : Str} : ∀ {fs : List (Str × V)} {k : Nat}, fidx (fs.map (·.1)) f = some k → ∃ v, fs[k]? = some (f, v) ∧ fs.lookup f = some v
  | [], k, h => by cases h
  | (n, v) :: fs, k, h => by
    have h' : (if f = n then some 0 else (fidx (fs.map (·.1)) f).map (· + 1)) = some k := h
    by_cases e : f = n
    · rw [if_pos e] at h'
      cases h'
      refine ⟨v, by rw [e]; rfl, ?_⟩
      rw [List.lookup_cons, e]
      simp
    · rw [if_neg e] at h'
      obtain ⟨j, h1, h2⟩ := Option.map_eq_some_iff.mp h'
      subst h2
      obtain ⟨w, a, b⟩ := fidx_look h1
      refine ⟨w, by simpa using a, ?_⟩
      rw [List.lookup_cons]
      have : (f == n) = false := by simpa using e
      rw [this]
      exact b
/-- what the text says of a class and a field of its instances -/
def FldT (Wp : Wp) (n f : Str) : Prop := ∀ C, Wp.cl n = some C → Cls Wp.K C ∧ NoAttr Wp.K C f
/-- e.f of an instance of the class n -/
def tFldN (Wp : Wp) (n f : Str) (ta : TE) : TE := fun σ H Q => ta σ H fun x H1 => ∃ a C dx fs v, Wp.cl n = some C ∧ x = .ref a ∧ H1 a = some (.ins C dx fs) ∧ fs.lookup f = some v ∧ Q v H1
theorem pe_fldN {X : Cx} {cl : Str → Option Addr} {n f : Str} {e : Expr} {ta : TE} {pos : Pos} (hT : FldT ⟨X.K, cl, X.w⟩ n f) (he : PE X e ta) (hb : attributeBase e f X.env (eval e X.env) = eval e X.env := by rfl) : PE X (.Attribute e f pos) (tFldN ⟨X.K, cl, X.w⟩ n f ta) := by
  refine ⟨fun pins s σ H Q I h => ?_⟩
  refine attr_of hb (thn (he.run pins s σ H _ I h) fun u s1 ⟨x, H1, I1, rx, a, C, dx, fs, v, hC, ex, ea, l, q⟩ => ?_)
  subst ex
  obtain rfl : u = Value.ref a := rx
  obtain ⟨c, n⟩ := hT C hC
  exact getattr_ok I1 ea c n l fun u' s2 I2 ru => ⟨v, H1, I2, ru, q⟩
def gFld (n f : Str) : D → Option D
  | .ins _ n' ns ds => if n' = n then (fidx ns f).bind fun k => ds[k]? else none
  | _ => none
def fFld (n f : Str) (a : FP) : FP := fun env => (a env).bind fun d => .of (gFld n f d)
theorem fFld_e (n f : Str) (a : FP) (env : Env) : fFld n f a env = (a env).bind fun d => .of (gFld n f d) := rfl
section
variable {c : Cn} {W : WX} {te ta ti tx : TE} {fe fa fi fx : FP} {n f : Str}
theorem RpF.fld {Wp : Wp} {C H : Hp} {v : V} {d e : D} {F : List Addr} (r : RpF Wp C H v d F) (s : Same C H) (h : gFld n f d = some e) : ∃ a Ca dx fs u G, Wp.cl n = some Ca ∧ v = .ref a ∧ H a = some (.ins Ca dx fs) ∧ fs.lookup f = some u ∧ RpF Wp C H u e G := by
  cases d with
  | ins o n' ns ds =>
    have h' : (if n' = n then (fidx ns f).bind fun k => ds[k]? else none) = some e := h
    by_cases en : n' = n
    · rw [if_pos en] at h'
      subst en
      obtain ⟨k, h1, h2⟩ := Option.bind_eq_some_iff.mp h'
      cases r with
      | inc hn hp hx rs =>
        obtain ⟨u, q1, q2⟩ := fidx_look h1
        obtain ⟨w, G, g1, g2, _⟩ := rs.get h2
        rw [List.getElem?_map, q1] at g1
        cases g1
        exact ⟨_, _, _, _, _, G, hn, rfl, s _ _ hp, q2, g2⟩
      | ino hn hp hx rs =>
        obtain ⟨u, q1, q2⟩ := fidx_look h1
        obtain ⟨w, G, g1, g2, _⟩ := rs.get h2
        rw [List.getElem?_map, q1] at g1
        cases g1
        exact ⟨_, _, _, _, _, G, hn, rfl, hp, q2, g2⟩
    · rw [if_neg en] at h'; cases h'
  | _ => cases h
theorem rv_fld (ha : RV c W ta fa) : RV c W (tFldN c.W n f ta) (fFld n f fa) := fun σ H C env T s Q q x nb =>
  ha σ H C env T s _ (fun d v H1 C1 F e1 s1 k1 t1 r1 => by
    unfold fFld at q nb
    rw [e1, O.bind_ok] at q nb
    cases eg : gFld n f d with
    | none => exact absurd (by rw [eg]; rfl) nb
    | some e =>
      obtain ⟨a, Ca, dx, fs, u, G, h1, h2, h3, h4, h5⟩ := r1.fld s1.w.sub eg
      exact ⟨a, Ca, dx, fs, u, h1, h2, h3, h4, q e u H1 C1 G (by rw [eg]; rfl) s1 k1 t1 h5⟩)
  (fun y cl dx H' C' e1 => x y cl dx H' C' (by unfold fFld; rw [e1]; rfl)) (fun e1 => nb (by unfold fFld; rw [e1]; rfl))
end
/-! ### places -/
structure Pl where
  i : Nat
  p : List Stp
  e : D
abbrev FPl := Env → O Pl
def PlV (σ : L2.St) (H : Hp) (env : Env) (l : Pl) (v : V) : Prop := (∃ d, mutE env l.i = some d ∧ getP l.p d = some l.e) ∧ ∃ v0, σ[l.i]? = some (some v0) ∧ WalkP H l.p v0 v
theorem PlV.mono {σ : L2.St} {H H' : Hp} {env : Env} {l : Pl} {v : V} (h : PlV σ H env l v) (t : Same H H') : PlV σ H' env l v := ⟨h.1, let ⟨v0, a, b⟩ := h.2; ⟨v0, a, b.mono t⟩⟩
def RPl (c : Cn) (W : WX) (te : TE) (fp : FPl) : Prop := ∀ (σ : L2.St) (H C : Hp) (env : Env) (T : List Ent), Stt c C σ H env T → ∀ Q : VK,
  (∀ l v H' C', fp env = .ok l → Stt c C' σ H' env T → Same C C' → Same H H' → PlV σ H' env l v → Q v H') →
  (∀ x cl dx H' C', fp env = .exc x → Stt c C' σ H' env T → Same C C' → Same H H' → XR c.W C' x cl dx → W cl dx σ H') →
  fp env ≠ .bad → te σ H Q
/-- the slot's thing with something else at the place -/
def putPl (env : Env) (l : Pl) (e : D) : Env := match mutE env l.i with
  | some d => env.set l.i (kindE env l.i (setP l.p d e))
  | none => env
def fplVar (i : Nat) : FPl := fun env => match mutE env i with
  | some d => .ok ⟨i, [], d⟩
  | none => .bad
def fplFld (n f : Str) (a : FPl) : FPl := fun env => (a env).bind fun l => match l.e with
  | .ins true n' ns ds => if n' = n then (match fidx ns f with
    | some k => match ds[k]? with
      | some e => .ok ⟨l.i, l.p ++ [.fld k], e⟩
      | none => .bad
    | none => .bad) else .bad
  | _ => .bad
def fplIx (a : FPl) (b : FP) : FPl := fun env => (a env).bind fun l => (b env).bind fun j => match l.e, j with
  | .lst true ds, .int z => match ixN ds.length z with
    | some k => match ds[k]? with
      | some e => .ok ⟨l.i, l.p ++ [.ix k], e⟩
      | none => .bad
    | none => .bad
  | _, _ => .bad
section
variable {c : Cn} {W : WX} {te ta ti tx : TE} {fe fa fi fx : FP} {fp : FPl} {n f : Str} {C H : Hp} {σ : L2.St} {env : Env} {T : List Ent} {l : Pl} {v : V}
/-- what stands at a place may be changed -/
theorem PlV.at (h : PlV σ H env l v) (s : Stt c C σ H env T) : (∃ G, RpF c.W C H v l.e G) ∧ ∀ (q : Addr) (o' : HO) (e' : D), (∀ G, RpF c.W C H v l.e G → G.Nodup → q ∈ G ∧ RpF c.W C (upd H q o') v e' G) → Stt c C σ (upd H q o') (putPl env l e') T := by
  obtain ⟨⟨d, h1, h2⟩, v0, h3, h4⟩ := h
  obtain ⟨w0, w, a1, a2, a3, a4⟩ := s.at h1 h2
  rw [h3] at a1
  cases a1
  have e : v = w := h4.det a2
  subst e
  refine ⟨a3, fun q o' e' hr => ?_⟩
  have := a4 q o' e' hr
  unfold putPl
  rw [h1]
  exact this
theorem PlV.view (h : PlV σ H env l v) (s : Stt c C σ H env T) : ∃ G, RpF c.W C H v l.e G := (h.at s).1
theorem rpl_var {i : Nat} : RPl c W (tVar i) (fplVar i) := fun σ H C env T s Q q x nb => by
  unfold fplVar at q nb
  cases h : mutE env i with
  | none => rw [h] at nb; exact absurd rfl nb
  | some d =>
    rw [h] at q
    obtain ⟨v, hv, _, _⟩ := s.takeM h
    exact ⟨v, hv, q _ v H C rfl s (Same.refl _) (Same.refl _) ⟨⟨d, h, rfl⟩, v, hv, .nil⟩⟩
theorem rpl_fld (ha : RPl c W ta fp) : RPl c W (tFldN c.W n f ta) (fplFld n f fp) := fun σ H C env T s Q q x nb =>
  ha σ H C env T s _ (fun l v H1 C1 e1 s1 k1 t1 hl => by
    unfold fplFld at q nb
    rw [e1, O.bind_ok] at q nb
    obtain ⟨G, r⟩ := hl.view s1
    obtain ⟨⟨d, h1, h2⟩, v0, h3, h4⟩ := hl
    generalize hle : l.e = le at *
    cases le with
    | ins o n' ns ds =>
      cases o with
      | false => exact absurd rfl nb
      | true =>
        dsimp only at q nb
        by_cases en : n' = n
        · rw [if_pos en] at q nb
          subst en
          cases r with
          | @ino pa dx Ca _ fs _ F hn hp hx rs =>
            cases hk : fidx (fs.map (·.1)) f with
            | none => rw [hk] at nb; exact absurd rfl nb
            | some k =>
              rw [hk] at q nb
              dsimp only at q nb
              obtain ⟨u, q1, q2⟩ := fidx_look hk
              cases hd : ds[k]? with
              | none => rw [hd] at nb; exact absurd rfl nb
              | some e =>
                rw [hd] at q
                refine ⟨pa, Ca, dx, fs, u, hn, rfl, hp, q2, q _ u H1 C1 rfl s1 k1 t1 ⟨⟨d, h1, ?_⟩, v0, h3, h4.snoc (.fld hp q1 .nil)⟩⟩
                dsimp only
                rw [getP_snoc h2]
                show (ds[k]?).bind (getP []) = some e
                rw [hd]; rfl
        · rw [if_neg en] at nb; exact absurd rfl nb
    | _ => exact absurd rfl nb)
  (fun y cl dx H' C' e1 => x y cl dx H' C' (by unfold fplFld; rw [e1]; rfl)) (fun e1 => nb (by unfold fplFld; rw [e1]; rfl))
end
/-- xs.append(x) of a closed x; d.pop(k) of plain keys -/
def gAppP (d x : D) : Option D := match d with
  | .lst true ds => @ite _ (ds.length < 16777216 ∧ clo x = true) (Classical.propDecidable _) (some (.lst true (ds ++ [x]))) none
  | _ => none
/-- o[i] = e at a place -/
def gStoreC (d i e : D) : Option D := match d with
  | .lst true ds => if clos ds = true then gStore d i e else none
  | _ => gStore d i e
def isLst : D → Bool
  | .lst true _ => true
  | _ => false
def fPl1 (kd : D → Bool) (g : D → D → Option D) (p : FPl) (a : FP) : FS := fun env => (p env).st env fun l => if kd l.e = true then (a env).st env fun x => match g l.e x with
  | some e => .nx (putPl env l e)
  | none => .bad
  else .bad
def fStoreP (p : FPl) (fi fe : FP) : FS := fun env => (fe env).st env fun e => (p env).st env fun l => (fi env).st env fun i => match gStoreC l.e i e with
  | some d => .nx (putPl env l d)
  | none => .bad
section
variable {c : Cn} {W : WX} {te ta ti tx : TE} {fe fa fi fx : FP} {fp : FPl} {n f : Str}
theorem rs_appendP (ha : RPl c W ta fp) (hb : RV c W te fe) : RS c W (tDrop (tBM c.K "list" rAppend ta (tCons te tNil))) (fPl1 isLst gAppP fp fe) := fun σ H C env T dn s n r b t x nb =>
  ha σ H C env T s _ (fun l v H1 C1 e1 s1 k1 t1 hl => by
    unfold fPl1 at n x nb
    rw [e1, O.st_ok] at n x nb
    obtain ⟨G, rv⟩ := hl.view s1
    obtain ⟨li, lp, le⟩ := l
    cases le with
    | lst o ds =>
      cases o with
      | false => exact absurd rfl nb
      | true =>
        rw [if_pos (by rfl)] at n x nb
        refine ⟨?_, ?_⟩
        · obtain ⟨p, xs, G', ep, hp, _⟩ := rv.tr s1.w.sub
          subst ep
          exact .inl ⟨rfl, _, SqL.of hp⟩
        refine hb σ H1 C1 env T s1 _ (fun d w H2 C2 F e2 s2 k2 t2 r2 => ?_) (fun y cl dx H' C' e2 s2 k2 t2 xr => x y env cl dx σ H' C' (by rw [e2]; rfl) s2 (k1.trans k2) xr) (fun e2 => nb (by rw [e2]; rfl))
        rw [e2, O.st_ok] at n nb
        have hl2 := hl.mono t2
        obtain ⟨⟨G2, rv2⟩, upd2⟩ := hl2.at s2
        by_cases hz : ds.length < 16777216 ∧ clo d = true
        · have eg : gAppP (.lst true ds) d = some (.lst true (ds ++ [d])) := by
            show @ite _ (ds.length < 16777216 ∧ clo d = true) (Classical.propDecidable _) (some (D.lst true (ds ++ [d]))) none = _
            rw [if_pos hz]
          rw [eg] at n
          obtain ⟨p, xs, G', ep, hp, rx⟩ := rv2.tr s2.w.sub
          have rc := r2.c hz.2 (Same.refl C2) (H' := H2)
          refine ⟨p, xs, w, ep, rfl, hp, by rw [rx.length]; exact hz.1, n _ σ _ C2 rfl (upd2 p _ _ fun G g nd => ?_) (k1.trans k2)⟩
          subst ep
          cases g with
          | @own _ ys _ F0 hq rs =>
            have : xs = ys := by
              rw [hp] at hq
              have := Option.some.inj hq
              injection this
            subst this
            have nd' := List.nodup_cons.mp nd
            refine ⟨by simp, .own upd_same ?_⟩
            have := (rs.snoc rc).mono (Same.refl C2) (H' := upd H2 p (.lst (xs ++ [w]))) fun a ha => upd_ne fun z => nd'.1 (by rw [List.append_nil] at ha; rw [← z]; exact ha)
            rwa [List.append_nil] at this
        · refine absurd ?_ nb
          have eg : gAppP (.lst true ds) d = none := by
            show @ite _ (ds.length < 16777216 ∧ clo d = true) (Classical.propDecidable _) (some (D.lst true (ds ++ [d]))) none = _
            rw [if_neg hz]
          rw [eg]
    | _ => exact absurd rfl nb)
  (fun y cl dx H' C' e1 s1 k1 t1 xr => x y env cl dx σ H' C' (by unfold fPl1; rw [e1]; rfl) s1 k1 xr) (fun e1 => nb (by unfold fPl1; rw [e1]; rfl))
end
end
end CV
namespace CV
noncomputable section
open PySem L2
section
variable {c : Cn} {W : WX} {te ta ti tx : TE} {fe fa fi fx : FP} {fp : FPl} {n f : Str}
theorem RpFs.set0 {Wp : Wp} {C H : Hp} {v : V} {d : D} (r : RpF Wp C H v d []) {vs : List V} {ds : List D} (i : Nat) (h : RpFs Wp C H vs ds []) : RpFs Wp C H (vs.set i v) (ds.set i d) [] := by
  obtain ⟨F', a, b⟩ := RpFs.set r i h
  have : F' = [] := by simpa using b
  rwa [this] at a
theorem uSet_at {C H : Hp} {σ : L2.St} {env : Env} {T : List Ent} {l : Pl} {w iv v : V} {di e d' : D} {F1 F2 : List Addr} {Q : Hp → Prop} (s : Stt c C σ H env T) (hl : PlV σ H env l w)
    (ri : RpF c.W C H iv di F1) (rv : RpF c.W C H v e F2) (eg : gStoreC l.e di e = some d') (q : ∀ H', Stt c C σ H' (putPl env l d') T → Q H') : uSet c.W w iv v H Q := by
  obtain ⟨⟨F, r⟩, upd2⟩ := hl.at s
  obtain ⟨li, lp, d⟩ := l
  dsimp only at eg r upd2
  have eg0 : gStore d di e = some d' ∧ (∀ ds, d = .lst true ds → clos ds = true) := by
    unfold gStoreC at eg
    split at eg
    · rename_i ds
      by_cases hc : clos ds = true
      · rw [if_pos hc] at eg
        exact ⟨eg, fun ds' z => by cases z; exact hc⟩
      · rw [if_neg hc] at eg; cases eg
    · rename_i hn
      exact ⟨eg, fun ds z => absurd z (hn ds)⟩
  clear eg
  obtain ⟨eg, hlc⟩ := eg0
  unfold gStore at eg
  split at eg
  · rename_i ds n
    by_cases hc : clo e = true
    · rw [if_pos hc] at eg
      obtain ⟨k, h1, h2⟩ := Option.map_eq_some_iff.mp eg
      subst h2
      cases ri
      have rc := rv.c hc (Same.refl C) (H' := H)
      have hcl := hlc ds rfl
      have r' := r
      cases r' with
      | own ep a =>
        rename_i p xs F0
        refine .inl ⟨p, xs, n, k, rfl, rfl, ep, by rw [a.length]; exact h1, q _ (upd2 p _ _ fun G g nd => ?_)⟩
        cases g with
        | own e' a' =>
          rename_i ys F3
          have : xs = ys := by
            rw [ep] at e'
            have := Option.some.inj e'
            injection this
          subst this
          have hF := a'.cl0 hcl
          subst hF
          exact ⟨by simp, .own upd_same ((RpFs.set0 rc k a').mono (Same.refl _) fun b hb => by simp at hb)⟩
    · rw [if_neg hc] at eg; cases eg
  · rename_i k t ks ds
    obtain ⟨kk, h1, h2⟩ := Option.bind_eq_some_iff.mp eg
    by_cases hc : kindK kk = t ∧ clos ds = true ∧ clo e = true ∧ ks.length < 16777216
    · rw [if_pos hc] at h2
      cases h2
      obtain ⟨ht, hcl, hce, hlen⟩ := hc
      have rc := rv.c hce (Same.refl C) (H' := H)
      have r' := r
      cases r' with
      | dio hd a =>
        rename_i p xs F0
        have ac := a.c hcl (Same.refl C) (H' := H)
        have done : ∀ (o' : HO) (ys : List V), (∀ H', H' p = some o' → DicAt H' t p (putKs ks kk) ys) → RpFs c.W C H ys (putDs ks ds kk e) [] → Q (upd H p o') := fun o' ys hd' ra' => q _ (upd2 p o' _ fun G g nd => by
          cases g with
          | @dio _ _ _ zs _ F3 hd3 a3 =>
            have hF := a3.cl0 hcl
            subst hF
            exact ⟨by simp, .dio (F := []) (hd' _ upd_same) (ra'.mono (Same.refl _) fun b hb => by simp at hb)⟩)
        rcases hd with ⟨et, kvs, e1, e2, e3⟩ | ⟨et, kvs, e1, e2, e3⟩
        · subst e2 e3
          rcases key_v ri s.w.sub h1 with ⟨y, rfl, ex⟩ | ⟨ys, b, rfl, _, _⟩
          · subst ex
            obtain ⟨g1, g2⟩ := put_rel kInj (k := y) rc ac
            refine .inr (.inl ⟨p, _, rfl, DPut.k e1 (by have h := hlen; rw [List.length_map] at h; exact h), done _ _ (fun H' e' => .inl ⟨et, _, e', g1.symm, rfl⟩) g2⟩)
          · rw [et] at ht; cases ht
        · subst e2 e3
          rcases key_v ri s.w.sub h1 with ⟨y, rfl, ex⟩ | ⟨ys, b, rfl, ex, hb⟩
          · rw [et] at ht; cases ht
          · subst ex
            obtain ⟨g1, g2⟩ := put_rel tInj (k := ys) rc ac
            refine .inr (.inl ⟨p, _, rfl, DPut.t e1 hb (by have h := hlen; rw [List.length_map] at h; exact h), done _ _ (fun H' e' => .inr ⟨et, _, e', g1.symm, rfl⟩) g2⟩)
    · rw [if_neg hc] at h2; cases h2
  · rename_i k ks ds
    obtain ⟨kk, h1, h2⟩ := Option.bind_eq_some_iff.mp eg
    by_cases hc : kk.ok = true ∧ clos ds = true ∧ clo e = true ∧ ks.length < 16777216
    · rw [if_pos hc] at h2
      cases h2
      obtain ⟨ht, hcl, hce, hlen⟩ := hc
      have rc := rv.c hce (Same.refl C) (H' := H)
      have r' := r
      have sm : ∀ a ys, C a = some (.tup ys) → H a = some (.tup ys) := fun a ys e => s.w.sub a _ e
      generalize hks : ks = ks0 at *
      cases r' with
      | mio e1 hkv a =>
        rename_i p kvs F0
        have ac := a.c hcl (Same.refl C) (H' := H)
        have ek := nk_v ri h1
        obtain ⟨g1, g2⟩ := put_rel (κ' := NK) (g := id) (fun _ _ e => e) (k := kk) rc (kvs := kvM kvs) (by rw [kvM_2]; exact ac)
        rw [kvM_1, ← putM_eq kvs kk iv v, kvM_1] at g1
        rw [kvM_1, ← putM_eq kvs kk iv v, kvM_2] at g2
        have nk : KeysV C (putM kvs kk iv v) := by
          have hv := valM_eq kvs kk
          unfold putM
          split
          · refine ⟨fun q hq => ?_, ?_⟩
            · obtain ⟨q', hq', rfl⟩ := List.mem_map.mp hq
              have z := hkv.all q' hq'
              split <;> exact z
            · rw [List.map_map]
              have : (kvs.map ((·.1) ∘ fun q : MRow => if q.1 = kk then (q.1, q.2.1, v) else q)) = kvs.map (·.1) := List.map_congr_left fun q _ => by
                show (if q.1 = kk then (q.1, q.2.1, v) else q).1 = q.1
                split <;> rfl
              rw [this]; exact hkv.nd
          · rename_i hn
            refine ⟨fun q hq => ?_, ?_⟩
            · rcases List.mem_append.mp hq with z | z
              · exact hkv.all q z
              · rw [List.mem_singleton.mp z]; exact ⟨ek, ht⟩
            · rw [List.map_append, List.nodup_append]
              refine ⟨hkv.nd, by simp, fun x hx y hy z => hn ?_⟩
              have ey : y = kk := by simpa using hy
              obtain ⟨q, hq, eq⟩ := List.mem_map.mp hx
              unfold valM
              rw [Option.isSome_map, List.find?_isSome]
              exact ⟨q, hq, decide_eq_true (by rw [eq, z, ey])⟩
        refine .inr (.inr ⟨p, _, rfl, ⟨kvs, kk, e1, hkv.mono sm, ek.mono sm, ht, by have h := hlen; rw [List.length_map] at h; exact h, rfl⟩, q _ (upd2 p _ _ fun G g nd => ?_)⟩)
        have g1 : (putM kvs kk iv v).map (·.1) = putKs (kvs.map (·.1)) kk := g1
        generalize hks1 : kvs.map (·.1) = ks1 at g g1
        cases g with
        | @mio _ kvs3 _ F3 e3 hkv3 a3 =>
          have hF := a3.cl0 hcl
          subst hF
          rw [← g1]
          exact ⟨by simp, .mio (F := []) upd_same nk (by
            rw [hks1] at g2
            exact g2.mono (Same.refl _) fun b hb => by simp at hb)⟩
    · rw [if_neg hc] at h2; cases h2
  · cases eg
theorem rs_storeP (he : RV c W te fe) (ha : RPl c W ta fp) (hi : RV c W ti fi) : RS c W (tAsg te (gSub ta ti (uSet c.W))) (fStoreP fp fi fe) := fun σ H C env T dn s n r b t x nb =>
  he σ H C env T s _ (fun e v H1 C1 F1 e1 s1 k1 t1 r1 => by
      unfold fStoreP at n x nb
      rw [e1, O.st_ok] at n x nb
      refine ha σ H1 C1 env T s1 _ (fun l w H2 C2 e2 s2 k2 t2 hl => ?_) (fun y cl dx H' C' e2 s2 k2 t2 xr => x y env cl dx σ H' C' (by rw [e2]; rfl) s2 (k1.trans k2) xr) (fun e2 => nb (by rw [e2]; rfl))
      rw [e2, O.st_ok] at n x nb
      refine hi σ H2 C2 env T s2 _ (fun di vi H3 C3 F3 e3 s3 k3 t3 r3 => ?_) (fun y cl dx H' C' e3 s3 k3 t3 xr => x y env cl dx σ H' C' (by rw [e3]; rfl) s3 ((k1.trans k2).trans k3) xr) (fun e3 => nb (by rw [e3]; rfl))
      rw [e3, O.st_ok] at n nb
      cases eg : gStoreC l.e di e with
      | none => exact absurd (by rw [eg]) nb
      | some d' =>
        rw [eg] at n
        exact uSet_at s3 (hl.mono t3) r3 ((r1.keep k2 t2).keep k3 t3) eg fun H' s' => n _ σ H' C3 rfl s' ((k1.trans k2).trans k3))
    (fun y cl dx H' C' e1 s1 k1 t1 => x y env cl dx σ H' C' (by unfold fStoreP; rw [e1]; rfl) s1 k1) (fun e1 => nb (by unfold fStoreP; rw [e1]; rfl))
/-! a made list is emptied; list.index of texts; bit_length -/
def fDropClear (a : FP) : FS := fun env => (a env).st env fun d => match d with
  | .lst true _ => .nx env
  | _ => .bad
theorem fDropClear_e (a : FP) (env : Env) : fDropClear a env = ((a env).st env fun d => match d with
  | .lst true _ => .nx env
  | _ => .bad) := rfl
def idxD (l : List Nat) : List D → Option Nat
  | [] => none
  | .str m :: ds => if m = l then some 0 else (idxD l ds).map (· + 1)
  | _ :: _ => none
def allStr : List D → Bool
  | [] => true
  | .str _ :: ds => allStr ds
  | _ :: _ => false
def gLIndex (ds : List D) : D → Option D
  | .str l => if allStr ds = true then (idxD l ds).map fun k => .int (k : Nat) else none
  | _ => none
def fLIndex (a b : FP) : FP := fun env => (a env).bind fun d => match d with
  | .lst _ ds => (b env).bind fun x => .of (gLIndex ds x)
  | _ => .bad
theorem fLIndex_e (a b : FP) (env : Env) : fLIndex a b env = ((a env).bind fun d => match d with
  | .lst _ ds => (b env).bind fun x => .of (gLIndex ds x)
  | _ => .bad) := rfl
def gBits : D → Option D
  | .int i => some (.int (Builtin.Int.intBits i : Nat))
  | _ => none
def fBits (a : FP) : FP := fun env => (a env).bind fun d => .of (gBits d)
theorem fBits_e (a : FP) (env : Env) : fBits a env = (a env).bind fun d => .of (gBits d) := rfl
end
end
end CV
namespace CV
noncomputable section
open PySem L2
open PyProof.Rows (envOfC)
/-! ### defs that change what some of their parameters hold -/
inductive OM where
  | bad | ok (d : D) (io : List D) | exc (x : Exc) (io : List D)
inductive OE where
  | bad | ok (d : D) (e : Env) | exc (x : Exc) (e : Env)
def pick {α : Type} : List Bool → List α → List α
  | true :: ks, a :: as => a :: pick ks as
  | false :: ks, _ :: as => pick ks as
  | _, _ => []
def ctxM (W : Wp) (H C : Hp) (G : List Addr) (vs : List V) : Cn := ⟨W, H, C, G, fun i => vs.getD i .non⟩
def spM (W : Wp) (ks : List Bool) (F : List D → OM) : Sp := fun vs H Q E => ∃ (C : Hp) (ds : List D) (G : List Addr), Same C H ∧ vs.length = ks.length ∧ ds.length = ks.length ∧ RpFs W C H (pick ks vs) (pick ks ds) G ∧ G.Nodup ∧ (∀ a ∈ G, C a = none) ∧
  (∀ (i : Nat) (v : V) (d : D), vs[i]? = some v → ds[i]? = some d → ks[i]? = some false → ∃ Fi, RpF W C H v d Fi ∧ ∀ a ∈ Fi, a ∉ G) ∧
  (∀ d io v H' C', F ds = .ok d io → io.length = (pick ks ds).length → Wld (ctxM W H C G vs) C' H' ((v, d) :: (pick ks vs).zip io) → Q v H') ∧
  (∀ x io cl dx H' C', F ds = .exc x io → io.length = (pick ks ds).length → Wld (ctxM W H C G vs) C' H' ((pick ks vs).zip io) → XR W C' x cl dx → E cl dx H') ∧ F ds ≠ .bad
def envM : List Bool → List D → Env
  | true :: ks, d :: ds => .io d :: envM ks ds
  | false :: ks, d :: ds => .bor d :: envM ks ds
  | _, _ => []
def iosOf : List Bool → Env → Option (List D)
  | true :: ks, .io d :: e => (iosOf ks e).map (d :: ·)
  | false :: ks, _ :: e => iosOf ks e
  | [], _ => some []
  | _, _ => none
def endM (ks : List Bool) : R → OM
  | .ret d e => match iosOf ks e with
    | some io => .ok d io
    | none => .bad
  | .nx e => match iosOf ks e with
    | some io => .ok .non io
    | none => .bad
  | .exc x e => match iosOf ks e with
    | some io => .exc x io
    | none => .bad
  | _ => .bad
def fDefM (ks : List Bool) (N : Nat) (fs : FS) : List D → OM := fun ds => if ds.length = ks.length then endM ks (fs (envM ks ds ++ List.replicate (N - ks.length) Sl.no)) else .bad
theorem pick_len {α β : Type} : ∀ {ks : List Bool} {as : List α} {bs : List β}, as.length = bs.length → (pick ks as).length = (pick ks bs).length
  | [], as, bs, h => by cases as <;> cases bs <;> rfl
  | k :: ks, [], [], h => by cases k <;> rfl
  | k :: ks, [], b :: bs, h => by simp at h
  | k :: ks, a :: as, [], h => by simp at h
  | true :: ks, a :: as, b :: bs, h => by
    show (pick ks as).length + 1 = (pick ks bs).length + 1
    rw [pick_len (by simpa using h)]
  | false :: ks, a :: as, b :: bs, h => pick_len (ks := ks) (as := as) (bs := bs) (by simpa using h)
theorem envM_len : ∀ {ks : List Bool} {ds : List D}, ds.length = ks.length → (envM ks ds).length = ks.length
  | [], [], _ => rfl
  | [], d :: ds, h => by simp at h
  | k :: ks, [], h => by simp at h
  | true :: ks, d :: ds, h => by
    show (envM ks ds).length + 1 = ks.length + 1
    rw [envM_len (by simpa using h)]
  | false :: ks, d :: ds, h => by
    show (envM ks ds).length + 1 = ks.length + 1
    rw [envM_len (by simpa using h)]
theorem envM_get : ∀ {ks : List Bool} {ds : List D} {i : Nat} {s : Sl}, (envM ks ds)[i]? = some s → ∃ d, ds[i]? = some d ∧ ((ks[i]? = some true ∧ s = .io d) ∨ (ks[i]? = some false ∧ s = .bor d))
  | [], ds, i, s, h => by cases ds <;> simp [envM] at h
  | k :: ks, [], i, s, h => by cases k <;> simp [envM] at h
  | true :: ks, d :: ds, 0, s, h => by
    cases (show some (Sl.io d) = some s from h)
    exact ⟨d, rfl, .inl ⟨rfl, rfl⟩⟩
  | false :: ks, d :: ds, 0, s, h => by
    cases (show some (Sl.bor d) = some s from h)
    exact ⟨d, rfl, .inr ⟨rfl, rfl⟩⟩
  | true :: ks, d :: ds, i + 1, s, h => by
    obtain ⟨e, a, b⟩ := envM_get (ks := ks) (ds := ds) (i := i) (s := s) h
    exact ⟨e, by simpa using a, by simpa using b⟩
  | false :: ks, d :: ds, i + 1, s, h => by
    obtain ⟨e, a, b⟩ := envM_get (ks := ks) (ds := ds) (i := i) (s := s) h
    exact ⟨e, by simpa using a, by simpa using b⟩
theorem slots_rep (k : Nat) : slotsE (List.replicate k none) (List.replicate k Sl.no) = [] := by
  induction k with
  | zero => rfl
  | succ k ih => rw [List.replicate_succ, List.replicate_succ, slots_cons, ih]; rfl
theorem slots_startM : ∀ {ks : List Bool} {vs : List V} {ds : List D} {r : List (Option V)} {e : Env}, vs.length = ks.length → ds.length = ks.length → slotsE (vs.map some ++ r) (envM ks ds ++ e) = (pick ks vs).zip (pick ks ds) ++ slotsE r e
  | [], [], [], r, e, _, _ => rfl
  | [], v :: vs, _, r, e, h, _ => by simp at h
  | [], [], d :: ds, r, e, _, h => by simp at h
  | k :: ks, [], _, r, e, h, _ => by simp at h
  | k :: ks, v :: vs, [], r, e, _, h => by simp at h
  | true :: ks, v :: vs, d :: ds, r, e, h, h' => by
    show slotsE (some v :: (vs.map some ++ r)) (.io d :: (envM ks ds ++ e)) = (v, d) :: ((pick ks vs).zip (pick ks ds) ++ slotsE r e)
    rw [slots_cons, slots_startM (by simpa using h) (by simpa using h')]
    rfl
  | false :: ks, v :: vs, d :: ds, r, e, h, h' => by
    show slotsE (some v :: (vs.map some ++ r)) (.bor d :: (envM ks ds ++ e)) = (pick ks vs).zip (pick ks ds) ++ slotsE r e
    rw [slots_cons, slots_startM (by simpa using h) (by simpa using h')]
    rfl
theorem ios_perm : ∀ {ks : List Bool} {vs : List V} {σ : L2.St} {e : Env} {io : List D}, iosOf ks e = some io → vs.length = ks.length → σ.length = e.length → (∀ i d, e[i]? = some (.io d) → σ[i]? = some (some (vs.getD i .non))) → ∃ R, ((pick ks vs).zip io ++ R).Perm (slotsE σ e) ∧ io.length = (pick ks vs).length
  | [], vs, σ, e, io, h, _, _, _ => by
    cases (show some [] = some io by simpa [iosOf] using h)
    exact ⟨slotsE σ e, by cases vs <;> exact .refl _, by cases vs <;> rfl⟩
  | k :: ks, [], σ, e, io, _, h, _, _ => by simp at h
  | k :: ks, v :: vs, σ, [], io, h, _, _, _ => by cases k <;> simp [iosOf] at h
  | k :: ks, v :: vs, [], y :: e, io, h, _, h2, _ => by simp at h2
  | true :: ks, v :: vs, x :: σ, y :: e, io, h, h1, h2, h3 => by
    cases y with
    | io d =>
      obtain ⟨io0, q1, q2⟩ := Option.map_eq_some_iff.mp (show (iosOf ks e).map (d :: ·) = some io from h)
      subst q2
      have ex : x = some v := by
        have := h3 0 d rfl
        simpa using this
      subst ex
      obtain ⟨R, p, l⟩ := ios_perm (vs := vs) (σ := σ) q1 (by simpa using h1) (by simpa using h2) fun i d' hi => by
        have := h3 (i + 1) d' (by simpa using hi)
        simpa using this
      refine ⟨R, ?_, by simp [pick, l]⟩
      rw [slots_cons]
      show ((v, d) :: ((pick ks vs).zip io0 ++ R)).Perm ([(v, d)] ++ slotsE σ e)
      exact p.cons _
    | _ => simp [iosOf] at h
  | false :: ks, v :: vs, x :: σ, y :: e, io, h, h1, h2, h3 => by
    obtain ⟨R, p, l⟩ := ios_perm (vs := vs) (σ := σ) (show iosOf ks e = some io by simpa [iosOf] using h) (by simpa using h1) (by simpa using h2) fun i d' hi => by
      have := h3 (i + 1) d' (by simpa using hi)
      simpa using this
    refine ⟨R ++ ent1 x y, ?_, l⟩
    rw [slots_cons]
    show ((pick ks vs).zip io ++ (R ++ ent1 x y)).Perm (ent1 x y ++ slotsE σ e)
    rw [← List.append_assoc]
    exact (p.append_right _).trans List.perm_append_comm
/-- a def's body keeps its promise -/
theorem body_M {Wp : Wp} {ks : List Bool} {N : List Str} {t : WX → TS} {fs : FS} (h : ∀ (c : Cn) (W : WX), c.W = Wp → RS c W (t W) fs) (hn : ks.length ≤ N.length)
    (vs : List V) (H : Hp) (Q : VK) (E : XK) (hs : spM Wp ks (fDefM ks N.length fs) vs H Q E) : t (WD E) { nx := fun _ H' => Q .non H', rt := Q } (L2.start N vs) H := by
  obtain ⟨C, ds, G, hC, hv, hl, hr, ng, hG, hb, q, x, nb⟩ := hs
  have ee : fDefM ks N.length fs ds = endM ks (fs (envM ks ds ++ List.replicate (N.length - ks.length) Sl.no)) := by unfold fDefM; rw [if_pos hl]
  rw [ee] at q x nb
  have hst : L2.start N vs = vs.map some ++ List.replicate (N.length - ks.length) none := by
    unfold L2.start
    rw [hv]
  rw [hst]
  have vd : vs.length = ds.length := hv.trans hl.symm
  have pl := pick_len (ks := ks) vd
  have lenM := envM_len hl
  have s0 : Stt (ctxM Wp H C G vs) C (vs.map some ++ List.replicate (N.length - ks.length) none) H (envM ks ds ++ List.replicate (N.length - ks.length) Sl.no) [] := by
    refine ⟨⟨by simp [lenM, hv], fun i d e => ?_, fun i d e => ?_, fun i e => ?_, fun i d e => ?_⟩, ?_⟩
    · by_cases hi : i < (envM ks ds).length
      · rw [List.getElem?_append_left hi] at e
        obtain ⟨d', _, z | z⟩ := envM_get e <;> cases z.2
      · rw [List.getElem?_append_right (by omega)] at e
        have := List.mem_of_getElem? e
        simp at this
    · by_cases hi : i < (envM ks ds).length
      · rw [List.getElem?_append_left hi] at e
        obtain ⟨d', hd', z | z⟩ := envM_get e
        · cases z.2
        · cases z.2
          have hiv : i < vs.length := by omega
          obtain ⟨Fi, r1, r2⟩ := hb i vs[i] d (List.getElem?_eq_getElem hiv) hd' z.1
          refine ⟨vs[i], Fi, ?_, r1, r2⟩
          rw [List.getElem?_append_left (by simpa using hiv), List.getElem?_map, List.getElem?_eq_getElem hiv]
          rfl
      · rw [List.getElem?_append_right (by omega)] at e
        have := List.mem_of_getElem? e
        simp at this
    · by_cases hi : i < (envM ks ds).length
      · rw [List.getElem?_append_left hi] at e
        obtain ⟨d', _, z | z⟩ := envM_get e <;> cases z.2
      · rw [List.getElem?_append_right (by omega)] at e
        have := List.mem_of_getElem? e
        simp at this
    · by_cases hi : i < (envM ks ds).length
      · rw [List.getElem?_append_left hi] at e
        obtain ⟨d', hd', z | z⟩ := envM_get e
        · cases z.2
          have hiv : i < vs.length := by omega
          rw [List.getElem?_append_left (by simpa using hiv), List.getElem?_map, List.getElem?_eq_getElem hiv]
          show some (some vs[i]) = some (some (vs.getD i .non))
          rw [List.getD_eq_getElem?_getD, List.getElem?_eq_getElem hiv]
          rfl
        · cases z.2
      · rw [List.getElem?_append_right (by omega)] at e
        have := List.mem_of_getElem? e
        simp at this
    · show Wld (ctxM Wp H C G vs) C H ([] ++ _)
      rw [List.nil_append, slots_startM hv hl, slots_rep, List.append_nil]
      refine ⟨fun a o _ e => e, hC, Same.refl _, fun a o e n => ?_, fun a h => h, G, ?_, ng, fun a ha => ⟨hG a ha, .inl ha⟩⟩
      · have n' : C a = none := n
        rw [n'] at e
        cases e
      · unfold RpE
        rw [zip_fst pl, zip_snd pl]
        exact hr
  have fin : ∀ {C' H' : Hp} {σ' : L2.St} {e : Env} {io : List D} {X : List Ent}, Stt (ctxM Wp H C G vs) C' σ' H' e X → iosOf ks e = some io → io.length = (pick ks ds).length ∧ Wld (ctxM Wp H C G vs) C' H' (X ++ (pick ks vs).zip io) := fun {C' H' σ' e io X} s' hio => by
    obtain ⟨R, p, l⟩ := ios_perm (vs := vs) (σ := σ') hio hv s'.e.len fun i d hi => s'.e.io i d hi
    refine ⟨l.trans pl, s'.w.less (R := R) ?_⟩
    rw [List.append_assoc]
    exact p.append_left _
  refine h (ctxM Wp H C G vs) (WD E) rfl _ H C _ [] _ s0 (fun e σ' H' C' e1 s1 k1 => ?_) (fun d e v σ' H' C' e1 s1 k1 => ?_) (fun e σ' H' C' e1 => ?_) (fun e σ' H' C' e1 => ?_) (fun y e cl dx σ' H' C' e1 s1 k1 xr => ?_) (fun e1 => nb (by rw [e1]; rfl))
  · rw [e1] at q nb
    cases hio : iosOf ks e with
    | none => exact absurd (by simp only [endM, hio]) nb
    | some io =>
      obtain ⟨l, w⟩ := fin (s1.push .non) hio
      exact q .non io .non H' C' (by simp only [endM, hio]) l w
  · rw [e1] at q nb
    cases hio : iosOf ks e with
    | none => exact absurd (by simp only [endM, hio]) nb
    | some io =>
      obtain ⟨l, w⟩ := fin s1 hio
      exact q d io v H' C' (by simp only [endM, hio]) l w
  · exact absurd (by rw [e1]; rfl) nb
  · exact absurd (by rw [e1]; rfl) nb
  · rw [e1] at x nb
    cases hio : iosOf ks e with
    | none => exact absurd (by simp only [endM, hio]) nb
    | some io =>
      obtain ⟨l, w⟩ := fin s1 hio
      exact x y io cl dx H' C' (by simp only [endM, hio]) l w xr
theorem len_M {Wp : Wp} {ks : List Bool} {F : List D → OM} : ∀ vs H Q E, spM Wp ks F vs H Q E → vs.length = ks.length := fun vs H Q E ⟨C, ds, G, _, h, _⟩ => h
/-! ### behind such a call -/
section
variable {c : Cn}
theorem Wld.afterM {C H C' H' : Hp} {X L : List Ent} {vs0 ws : List V} {ds0 io : List D} {G F1 F2 : List Addr} {ps : List (List Stp)} {args : Nat → V} (k : Wld c C H (vs0.zip ds0 ++ L)) (h1 : RpFs c.W C H vs0 ds0 F1) (h2 : RpE c.W C H L F2) (nd : (F1 ++ F2).Nodup)
    (own : ∀ a ∈ F1 ++ F2, C a = none ∧ (a ∈ c.M ∨ c.H0 a = none)) (hG : ∀ a ∈ G, a ∈ F1)
    (back : ∀ (C' H' : Hp) (es' : List D) (G' : List Addr), Same C C' → (∀ a ∈ F1, a ∉ G → H' a = H a) → RpFs c.W C' H' ws es' G' → G'.Nodup → (∀ a ∈ G', a ∈ F1 → a ∈ G) → ∃ F', RpFs c.W C' H' vs0 (setPs ps ds0 es') F' ∧ F'.Nodup ∧ ∀ a ∈ F', (a ∈ F1 ∧ a ∉ G) ∨ a ∈ G')
    (k' : Wld ⟨c.W, H, C, G, args⟩ C' H' (X ++ ws.zip io)) (hl : ws.length = io.length) (hl2 : vs0.length = (setPs ps ds0 io).length) : Wld c C' H' (X ++ (vs0.zip (setPs ps ds0 io) ++ L)) := by
  obtain ⟨F', g1, g2, g3⟩ := k'.own
  obtain ⟨Fx, G', e, q1, q2⟩ := g1.split
  subst e
  have q2' : RpFs c.W C' H' ws io G' := by
    unfold RpE at q2
    rw [zip_fst hl, zip_snd hl] at q2
    exact q2
  obtain ⟨n1, n2, n3⟩ := List.nodup_append.mp g2
  obtain ⟨m1, m2, m3⟩ := List.nodup_append.mp nd
  have t1 : ∀ a ∈ F1, H a ≠ none := RpFs.there h1
  have t2 : ∀ a ∈ F2, H a ≠ none := RpFs.there h2
  have kp : ∀ a, H a ≠ none → a ∉ G → H' a = H a := fun a hn hg => by
    cases q : H a with
    | none => exact absurd q hn
    | some o => exact k'.same a o hg q
  have off : ∀ a ∈ F2, a ∉ G := fun a ha z => m3 a (hG a z) a ha rfl
  obtain ⟨F1', b1, b2, b3⟩ := back C' H' io G' k'.ext (fun a ha hg => kp a (t1 a ha) hg) q2' n2 (fun a ha hb => ((g3 a (List.mem_append_right _ ha)).2).elim id fun z => absurd z (t1 a hb))
  have old0 : ∀ a, H a = none → c.H0 a = none := fun a h => Classical.byContradiction fun z => k.old a z h
  have inG : ∀ a ∈ G, a ∈ c.M ∨ c.H0 a = none := fun a ha => (own a (List.mem_append_left _ (hG a ha))).2
  have keepC : ∀ a, C a = none → H a ≠ none → (∀ ys, H a ≠ some (.tup ys)) → a ∉ G → C' a = none := fun a hc hn ht hg => by
    cases e : C' a with
    | none => rfl
    | some u =>
      rcases k'.new a u e hc with z | z | ⟨ys, z⟩
      · exact absurd z hn
      · exact absurd z hg
      · exact absurd z (ht ys)
  refine ⟨fun a o hm e => ?_, k'.sub, k.ext.trans k'.ext, fun a o e n => ?_, fun a h => k'.old a (k.old a h), Fx ++ (F1' ++ F2), RpE.app q1 (RpE.app ?_ (RpFs.mono k'.ext (fun a ha => kp a (t2 a ha) (off a ha)) h2)), ?_, fun a ha => ?_⟩
  · exact k'.same a o (fun z => (inG a z).elim hm fun y => by rw [y] at e; cases e) (k.same a o hm e)
  · cases q : C a with
    | some u => exact k.new a u q n
    | none =>
      rcases k'.new a o e q with z | z | ⟨ys, z⟩
      · exact .inl (old0 a z)
      · exact (inG a z).elim (fun y => .inr (.inl y)) .inl
      · cases e0 : c.H0 a with
        | none => exact .inl rfl
        | some u =>
          by_cases hm : a ∈ c.M
          · exact .inr (.inl hm)
          · have := k.same a u hm e0
            have z' : H a = some (.tup ys) := z
            rw [this] at z'
            exact .inr (.inr ⟨ys, z'⟩)
  · unfold RpE
    rw [zip_fst hl2, zip_snd hl2]
    exact b1
  · have inX : ∀ a ∈ Fx, a ∈ G ∨ H a = none := fun a ha => (g3 a (List.mem_append_left _ ha)).2
    have inG' : ∀ a ∈ G', a ∈ G ∨ H a = none := fun a ha => (g3 a (List.mem_append_right _ ha)).2
    refine List.nodup_append.mpr ⟨n1, List.nodup_append.mpr ⟨b2, m2, fun a ha b hb z => ?_⟩, fun a ha b hb z => ?_⟩
    · subst z
      rcases b3 a ha with ⟨u, _⟩ | u
      · exact m3 a u a hb rfl
      · rcases inG' a u with y | y
        · exact off a hb y
        · exact t2 a hb y
    · subst z
      rcases List.mem_append.mp hb with hb | hb
      · rcases b3 a hb with ⟨u, u'⟩ | u
        · rcases inX a ha with y | y
          · exact u' y
          · exact t1 a u y
        · exact n3 a ha a u rfl
      · rcases inX a ha with y | y
        · exact off a hb y
        · exact t2 a hb y
  · have fresh : ∀ a, (a ∈ G ∨ H a = none) → (a ∈ c.M ∨ c.H0 a = none) := fun a h => h.elim (inG a) fun z => .inr (old0 a z)
    rcases List.mem_append.mp ha with q | q
    · have z := g3 a (List.mem_append_left _ q)
      exact ⟨z.1, fresh a z.2⟩
    · rcases List.mem_append.mp q with q | q
      · rcases b3 a q with ⟨u, u'⟩ | u
        · have z := own a (List.mem_append_left _ u)
          exact ⟨keepC a z.1 (t1 a u) (RpFs.there2 h1 a u).2 u', z.2⟩
        · have z := g3 a (List.mem_append_right _ u)
          exact ⟨z.1, fresh a z.2⟩
      · have z := own a (List.mem_append_right _ q)
        exact ⟨keepC a z.1 (t2 a q) (RpFs.there2 h2 a q).2 (off a q), z.2⟩
end
end
end CV
namespace CV
noncomputable section
open PySem L2
open PyProof.Rows (envOfC)
/-! ### calls of such defs; methods -/
/-- an argument: a closed thing, a place, what a borrowed name holds -/
inductive AR where
  | cl (d : D) | io (l : Pl) | vw (i : Nat) (d : D)
def AR.d : AR → D
  | .cl d => d
  | .io l => l.e
  | .vw _ d => d
def AR.k : AR → Bool
  | .io _ => true
  | _ => false
def ioI : List AR → List Nat
  | [] => []
  | .io l :: r => l.i :: ioI r
  | _ :: r => ioI r
def ioP : List AR → List (List Stp)
  | [] => []
  | .io l :: r => l.p :: ioP r
  | _ :: r => ioP r
inductive ArOk (c : Cn) (C H : Hp) (σ : L2.St) (env : Env) : AR → V → Prop
  | cl {d : D} {v : V} : RpF c.W C H v d [] → ArOk c C H σ env (.cl d) v
  | io {l : Pl} {v : V} : PlV σ H env l v → ArOk c C H σ env (.io l) v
  | vw {i : Nat} {d : D} {v : V} : env[i]? = some (.bor d) → σ[i]? = some (some v) → ArOk c C H σ env (.vw i d) v
inductive ArsOk (c : Cn) (C H : Hp) (σ : L2.St) (env : Env) : List AR → List V → Prop
  | nil : ArsOk c C H σ env [] []
  | cons {a : AR} {v : V} {as : List AR} {vs : List V} : ArOk c C H σ env a v → ArsOk c C H σ env as vs → ArsOk c C H σ env (a :: as) (v :: vs)
section
variable {c : Cn} {C H C' H' : Hp} {σ : L2.St} {env : Env} {T : List Ent}
theorem ArOk.mono {a : AR} {v : V} (h : ArOk c C H σ env a v) (k : Same C C') (t : Same H H') : ArOk c C' H' σ env a v := by
  cases h with
  | cl r => exact .cl (r.mono k fun a ha => by simp at ha)
  | io h => exact .io (h.mono t)
  | vw a b => exact .vw a b
theorem ArsOk.mono : ∀ {as : List AR} {vs : List V}, ArsOk c C H σ env as vs → Same C C' → Same H H' → ArsOk c C' H' σ env as vs
  | _, _, .nil, _, _ => .nil
  | _, _, .cons h r, k, t => .cons (h.mono k t) (r.mono k t)
theorem ArsOk.len : ∀ {as : List AR} {vs : List V}, ArsOk c C H σ env as vs → vs.length = as.length
  | _, _, .nil => rfl
  | _, _, .cons _ r => congrArg (· + 1) r.len
theorem ArsOk.get : ∀ {as : List AR} {vs : List V} {i : Nat} {v : V}, ArsOk c C H σ env as vs → vs[i]? = some v → ∃ a, as[i]? = some a ∧ ArOk c C H σ env a v
  | _, _, i, v, .nil, h => by simp at h
  | _, _, 0, v, .cons h r, e => by
    have := Option.some.inj (show some _ = some v from e)
    subst this
    exact ⟨_, rfl, h⟩
  | _, _, i + 1, v, .cons h r, e => by
    obtain ⟨a, x, y⟩ := ArsOk.get (i := i) r (by simpa using e)
    exact ⟨a, by simpa using x, y⟩
theorem ArsOk.places : ∀ {as : List AR} {vs vs0 : List V} {ds0 : List D}, ArsOk c C H σ env as vs → mutEs env (ioI as) = some ds0 → (ioI as).map (σ[·]?) = vs0.map (fun v => some (some v)) →
    getPs (ioP as) ds0 = some (pick (as.map AR.k) (as.map AR.d)) ∧ WalkPs H (ioP as) vs0 (pick (as.map AR.k) vs)
  | _, _, vs0, ds0, .nil, h1, h2 => by
    cases h1
    cases vs0 with
    | nil => exact ⟨rfl, .nil⟩
    | cons => simp [ioI] at h2
  | _, _, vs0, ds0, .cons (a := a) h r, h1, h2 => by
    cases h with
    | cl h => exact r.places (vs0 := vs0) h1 h2
    | vw h _ => exact r.places (vs0 := vs0) h1 h2
    | @io l v h =>
      obtain ⟨d, m1, m2⟩ := Option.bind_eq_some_iff.mp (show (mutE env l.i).bind _ = some ds0 from h1)
      obtain ⟨ds1, m3, m4⟩ := Option.map_eq_some_iff.mp m2
      subst m4
      cases vs0 with
      | nil => simp [ioI] at h2
      | cons v0 vs0 =>
        have h2' : σ[l.i]? :: (ioI _).map (σ[·]?) = some (some v0) :: vs0.map (fun v => some (some v)) := h2
        injection h2' with e1 e2
        obtain ⟨q1, q2⟩ := r.places (vs0 := vs0) m3 e2
        obtain ⟨⟨d', p1, p2⟩, w0, p3, p4⟩ := h
        rw [m1] at p1
        cases p1
        rw [e1] at p3
        cases p3
        refine ⟨?_, .cons p4 q2⟩
        show (getP l.p d).bind (fun e => (getPs (ioP _) ds1).map (e :: ·)) = _
        rw [p2, Option.bind_some, q1]
        rfl
theorem setPs_len : ∀ {ps : List (List Stp)} {ds es : List D}, ds.length = ps.length → es.length = ps.length → (setPs ps ds es).length = ps.length
  | [], [], [], _, _ => rfl
  | [], d :: ds, _, h, _ => by simp at h
  | [], [], e :: es, _, h => by simp at h
  | p :: ps, [], _, h, _ => by simp at h
  | p :: ps, d :: ds, [], _, h => by simp at h
  | p :: ps, d :: ds, e :: es, h, h' => by
    show (setPs ps ds es).length + 1 = ps.length + 1
    rw [setPs_len (by simpa using h) (by simpa using h')]
theorem getPs_len : ∀ {ps : List (List Stp)} {ds es : List D}, getPs ps ds = some es → ds.length = ps.length ∧ es.length = ps.length
  | [], [], es, h => by cases h; exact ⟨rfl, rfl⟩
  | [], d :: ds, es, h => by cases h
  | p :: ps, [], es, h => by cases h
  | p :: ps, d :: ds, es, h => by
    obtain ⟨e, h1, h2⟩ := Option.bind_eq_some_iff.mp (show (getP p d).bind (fun e => (getPs ps ds).map (e :: ·)) = some es from h)
    obtain ⟨es0, h3, h4⟩ := Option.map_eq_some_iff.mp h2
    subst h4
    obtain ⟨a, b⟩ := getPs_len h3
    simp [a, b]
theorem WalkPs.len {H : Hp} : ∀ {ps : List (List Stp)} {vs ws : List V}, WalkPs H ps vs ws → vs.length = ps.length ∧ ws.length = ps.length
  | _, _, _, .nil => ⟨rfl, rfl⟩
  | _, _, _, .cons _ r => by
    obtain ⟨a, b⟩ := r.len
    simp [a, b]
/-- the call, of entries -/
theorem callW {ks : List Bool} {F : List D → OM} {vs vs0 : List V} {ds ds0 : List D} {ps : List (List Stp)} {L : List Ent} {Q : VK} {E : XK} (k : Wld c C H (vs0.zip ds0 ++ L)) (hv : vs.length = ks.length) (hd : ds.length = ks.length)
    (hp : getPs ps ds0 = some (pick ks ds)) (hw : WalkPs H ps vs0 (pick ks vs)) (hb : ∀ (i : Nat) (v : V) (d : D), vs[i]? = some v → ds[i]? = some d → ks[i]? = some false → ∃ Fi, RpF c.W C H v d Fi ∧ ∀ a ∈ Fi, c.H0 a ≠ none ∧ a ∉ c.M)
    (q : ∀ d io v H' C', F ds = .ok d io → Wld c C' H' ((v, d) :: (vs0.zip (setPs ps ds0 io) ++ L)) → io.length = ps.length → Same C C' → (∀ a o, H a = some o → (∀ G, RpFs c.W C H vs0 ds0 G → a ∉ G) → H' a = some o) → Q v H')
    (x : ∀ y io cl dx H' C', F ds = .exc y io → Wld c C' H' (vs0.zip (setPs ps ds0 io) ++ L) → io.length = ps.length → Same C C' → (∀ a o, H a = some o → (∀ G, RpFs c.W C H vs0 ds0 G → a ∉ G) → H' a = some o) → XR c.W C' y cl dx → E cl dx H')
    (nb : F ds ≠ .bad) : spM c.W ks F vs H Q E := by
  obtain ⟨FF, o1, o2, o3⟩ := k.own
  obtain ⟨F1, F2, eF, r1, r2⟩ := o1.split
  subst eF
  obtain ⟨l1, l2⟩ := getPs_len hp
  obtain ⟨l3, l4⟩ := hw.len
  have l5 : vs0.length = ds0.length := by omega
  have r1' : RpFs c.W C H vs0 ds0 F1 := by
    unfold RpE at r1
    rw [zip_fst l5, zip_snd l5] at r1
    exact r1
  obtain ⟨n1, n2, n3⟩ := List.nodup_append.mp o2
  obtain ⟨ws, G, f1, f2, f3, f4, f5⟩ := RpFs.focusL ps r1' hp n1
  have ew : pick ks vs = ws := hw.det f1
  rw [← ew] at f2 f5
  have stays : ∀ {C' H' : Hp} {X : List Ent}, Wld (ctxM c.W H C G vs) C' H' X → ∀ a o, H a = some o → (∀ G, RpFs c.W C H vs0 ds0 G → a ∉ G) → H' a = some o := fun {C' H' X} w a o e h => w.same a o (fun z => h F1 r1' (f4 a z)) e
  refine ⟨C, ds, G, k.sub, hv, hd, f2, f3, fun a ha => (o3 a (List.mem_append_left _ (f4 a ha))).1, fun i v d e1 e2 e3 => ?_, fun d io v H' C' e hl w => ?_, fun y io cl dx H' C' e hl w xr => ?_, nb⟩
  · obtain ⟨Fi, a1, a2⟩ := hb i v d e1 e2 e3
    refine ⟨Fi, a1, fun a ha hg => ?_⟩
    obtain ⟨z1, z2⟩ := a2 a ha
    rcases (o3 a (List.mem_append_left _ (f4 a hg))).2 with z | z
    · exact z2 z
    · exact z1 z
  · have l6 : io.length = ps.length := by rw [hl]; exact l2
    refine q d io v H' C' e ?_ l6 w.ext (stays w)
    exact Wld.afterM (X := [(v, d)]) (ws := pick ks vs) (args := fun i => vs.getD i .non) k r1' r2 o2 o3 f4 f5 w (by omega) (by rw [setPs_len l1 l6]; exact l3)
  · have l6 : io.length = ps.length := by rw [hl]; exact l2
    refine x y io cl dx H' C' e ?_ l6 w.ext (stays w) xr
    exact Wld.afterM (X := []) (ws := pick ks vs) (args := fun i => vs.getD i .non) k r1' r2 o2 o3 f4 f5 w (by omega) (by rw [setPs_len l1 l6]; exact l3)
end
abbrev FX := Env → OE
section
variable (c : Cn) (W : WX)
/-- an expression whose making changes what slots hold -/
def RM (te : TE) (fm : FX) : Prop := ∀ (σ : L2.St) (H C : Hp) (env : Env) (T : List Ent), Stt c C σ H env T → ∀ Q : VK,
  (∀ d e v H' C', fm env = .ok d e → Stt c C' σ H' e ((v, d) :: T) → Same C C' → Q v H') →
  (∀ x e cl dx H' C', fm env = .exc x e → Stt c C' σ H' e T → Same C C' → XR c.W C' x cl dx → W cl dx σ H') →
  fm env ≠ .bad → te σ H Q
def RAR (ta : TA) (fa : Env → O (List AR)) : Prop := ∀ (σ : L2.St) (H C : Hp) (env : Env) (T : List Ent), Stt c C σ H env T → ∀ Q : List V → Hp → Prop,
  (∀ as vs H' C', fa env = .ok as → Stt c C' σ H' env T → Same C C' → Same H H' → ArsOk c C' H' σ env as vs → Q vs H') →
  (∀ x cl dx H' C', fa env = .exc x → Stt c C' σ H' env T → Same C C' → Same H H' → XR c.W C' x cl dx → W cl dx σ H') →
  fa env ≠ .bad → ta σ H Q
end
def faNil : Env → O (List AR) := fun _ => .ok []
def faCl (f : FP) (r : Env → O (List AR)) : Env → O (List AR) := fun env => (f env).bind fun d => if clo d = true then (r env).bind fun as => .ok (.cl d :: as) else .bad
def faIo (f : FPl) (r : Env → O (List AR)) : Env → O (List AR) := fun env => (f env).bind fun l => (r env).bind fun as => .ok (.io l :: as)
def faVw (i : Nat) (r : Env → O (List AR)) : Env → O (List AR) := fun env => match env[i]? with
  | some (.bor d) => (r env).bind fun as => .ok (.vw i d :: as)
  | _ => .bad
theorem faNil_e (env : Env) : faNil env = .ok [] := rfl
theorem faCl_e (f : FP) (r : Env → O (List AR)) (env : Env) : faCl f r env = (f env).bind fun d => if clo d = true then (r env).bind fun as => .ok (.cl d :: as) else .bad := rfl
theorem faIo_e (f : FPl) (r : Env → O (List AR)) (env : Env) : faIo f r env = (f env).bind fun l => (r env).bind fun as => .ok (.io l :: as) := rfl
theorem faVw_e (i : Nat) (r : Env → O (List AR)) (env : Env) : faVw i r env = (match env[i]? with
  | some (.bor d) => (r env).bind fun as => .ok (.vw i d :: as)
  | _ => .bad) := rfl
/-- what slots hold behind the call -/
def outM (env : Env) (as : List AR) (ds0 io : List D) : Env := inE (kindE env) (outE env (ioI as)) (ioI as) (setPs (ioP as) ds0 io)
/-- dv: the defaults that fill up -/
def fCallM (ks : List Bool) (F : List D → OM) (dv : List D) (a : Env → O (List AR)) : FX := fun env => match a env with
  | .bad => .bad
  | .exc x => .exc x env
  | .ok as => if (as ++ dv.map AR.cl).map AR.k = ks ∧ (ioI as).Nodup ∧ clos dv = true then match mutEs env (ioI as) with
    | none => .bad
    | some ds0 => match F (as.map AR.d ++ dv) with
      | .bad => .bad
      | .ok d io => .ok d (outM env as ds0 io)
      | .exc x io => .exc x (outM env as ds0 io)
    else .bad
section
variable {c : Cn} {W : WX} {te ta ti tx : TE} {fe fa fi fx : FP} {fp : FPl} {n f : Str} {tas : TA} {fas : Env → O (List AR)} {C H : Hp} {σ : L2.St} {env : Env} {T : List Ent}
theorem rar_nil : RAR c W tNil faNil := fun σ H C env T s Q q x nb => q [] [] H C rfl s (Same.refl _) (Same.refl _) .nil
theorem rar_cl (h : RV c W te fe) (r : RAR c W tas fas) : RAR c W (tCons te tas) (faCl fe fas) := fun σ H C env T s Q q x nb =>
  h σ H C env T s _ (fun d v H1 C1 F e1 s1 k1 t1 r1 => by
    unfold faCl at q x nb
    rw [e1, O.bind_ok] at q x nb
    by_cases hc : clo d = true
    · rw [if_pos hc] at q x nb
      refine r σ H1 C1 env T s1 _ (fun as vs H2 C2 e2 s2 k2 t2 r2 => ?_) (fun y cl dx H' C' e2 s2 k2 t2 => x y cl dx H' C' (by rw [e2]; rfl) s2 (k1.trans k2) (t1.trans t2)) (fun e2 => nb (by rw [e2]; rfl))
      exact q _ _ H2 C2 (by rw [e2]; rfl) s2 (k1.trans k2) (t1.trans t2) (.cons (.cl (r1.c hc k2)) r2)
    · rw [if_neg hc] at nb; exact absurd rfl nb)
  (fun y cl dx H' C' e1 => x y cl dx H' C' (by unfold faCl; rw [e1]; rfl)) (fun e1 => nb (by unfold faCl; rw [e1]; rfl))
theorem clos_ars {c : Cn} {C H : Hp} {σ : L2.St} {env : Env} : ∀ {dvv : List V} {dv : List D}, RpFs c.W C H dvv dv [] → ArsOk c C H σ env (dv.map AR.cl) dvv
  | [], [], _ => .nil
  | [], d :: dv, h => by cases h
  | v :: dvv, [], h => by cases h
  | v :: dvv, d :: dv, h => by
    generalize hF : ([] : List Addr) = F0 at h
    cases h with
    | @cons _ _ _ _ F G r1 r2 =>
      obtain ⟨rfl, rfl⟩ := List.append_eq_nil_iff.mp hF.symm
      exact .cons (.cl r1) (clos_ars r2)
theorem ArsOk.app {c : Cn} {C H : Hp} {σ : L2.St} {env : Env} : ∀ {as bs : List AR} {vs ws : List V}, ArsOk c C H σ env as vs → ArsOk c C H σ env bs ws → ArsOk c C H σ env (as ++ bs) (vs ++ ws)
  | _, _, _, _, .nil, k => k
  | _, _, _, _, .cons h r, k => .cons h (r.app k)
theorem ioI_cl : ∀ (as : List AR) (dv : List D), ioI (as ++ dv.map AR.cl) = ioI as
  | [], [] => rfl
  | [], d :: dv => ioI_cl [] dv
  | .cl d :: as, dv => ioI_cl as dv
  | .vw i d :: as, dv => ioI_cl as dv
  | .io l :: as, dv => congrArg (l.i :: ·) (ioI_cl as dv)
theorem ioP_cl : ∀ (as : List AR) (dv : List D), ioP (as ++ dv.map AR.cl) = ioP as
  | [], [] => rfl
  | [], d :: dv => ioP_cl [] dv
  | .cl d :: as, dv => ioP_cl as dv
  | .vw i d :: as, dv => ioP_cl as dv
  | .io l :: as, dv => congrArg (l.p :: ·) (ioP_cl as dv)
/-- the promise of the callee is met -/
theorem callM_ok {ks : List Bool} {F : List D → OM} {dv : List D} {dvv : List V} {as : List AR} {vs : List V} {ds0 : List D} {Q : VK} {E : XK} (s : Stt c C σ H env T) (ho : ArsOk c C H σ env as vs) (hdv : ∀ C H, RpFs c.W C H dvv dv [])
    (hk : (as ++ dv.map AR.cl).map AR.k = ks) (nd : (ioI as).Nodup) (hm : mutEs env (ioI as) = some ds0)
    (q : ∀ d io v H' C', F (as.map AR.d ++ dv) = .ok d io → Stt c C' σ H' (outM env as ds0 io) ((v, d) :: T) → Same C C' → Q v H')
    (x : ∀ y io cl dx H' C', F (as.map AR.d ++ dv) = .exc y io → Stt c C' σ H' (outM env as ds0 io) T → Same C C' → XR c.W C' y cl dx → E cl dx H')
    (nb : F (as.map AR.d ++ dv) ≠ .bad) : spM c.W ks F (vs ++ dvv) H Q E := by
  obtain ⟨vs0, m1, m2, m3, back⟩ := s.takeL (ioI as) nd hm
  have ho2 := ho.app (clos_ars (σ := σ) (env := env) (hdv C H))
  have em : (as ++ dv.map AR.cl).map AR.d = as.map AR.d ++ dv := by
    rw [List.map_append, List.map_map]
    congr 1
    exact (List.map_congr_left (g := id) fun d _ => rfl).trans (List.map_id dv)
  obtain ⟨p1, p2⟩ := ho2.places (vs0 := vs0) (ds0 := ds0) (by rw [ioI_cl]; exact hm) (by rw [ioI_cl]; exact m2)
  rw [hk, em, ioP_cl] at p1
  rw [hk, ioP_cl] at p2
  have l0 := ho2.len
  have l1 : (as.map AR.d ++ dv).length = ks.length := by rw [← em, ← hk, List.length_map, List.length_map]
  obtain ⟨g1, g2⟩ := getPs_len p1
  refine callW (L := T ++ slotsE σ (outE env (ioI as))) (by have := m3.w; rwa [List.append_assoc] at this) (by rw [l0, ← hk, List.length_map]) l1 p1 p2 (fun i v d e1 e2 e3 => ?_) (fun d io v H' C' e w hl k1 _ => q d io v H' C' e ?_ k1) (fun y io cl dx H' C' e w hl k1 _ xr => x y io cl dx H' C' e ?_ k1 xr) nb
  · obtain ⟨a, x1, x2⟩ := ho2.get e1
    rw [← em, List.getElem?_map, x1] at e2
    rw [← hk, List.getElem?_map, x1] at e3
    cases x2 with
    | cl r =>
      cases e2
      exact ⟨[], r, fun a ha => by simp at ha⟩
    | io r => cases e3
    | vw y1 y2 =>
      cases e2
      obtain ⟨u, Fu, b1, b2, b3⟩ := s.e.bor _ _ y1
      rw [y2] at b1
      cases b1
      exact ⟨Fu, s.w.bor b2 b3, fun a ha => ⟨b2.there a ha, b3 a ha⟩⟩
  · refine back C' H' (outE env (ioI as)) ((v, d) :: T) _ (by rw [setPs_len g1 hl, g1]) ⟨m3.e, w.perm ?_⟩
    show (vs0.zip (setPs (ioP as) ds0 io) ++ (v, d) :: T ++ slotsE σ (outE env (ioI as))).Perm ((v, d) :: (vs0.zip (setPs (ioP as) ds0 io) ++ (T ++ slotsE σ (outE env (ioI as)))))
    rw [← List.append_assoc]
    exact (List.perm_middle).append_right _
  · refine back C' H' (outE env (ioI as)) T _ (by rw [setPs_len g1 hl, g1]) ⟨m3.e, w.perm ?_⟩
    rw [List.append_assoc]
end
end
end CV
namespace CV
noncomputable section
open PySem L2
open PyProof.Rows (envOfC)
/-! ### methods of own classes -/
structure MethAt (K : Fg) (mg : Str → Option Value) (n m qual : Str) (st : Stmt) (dvs : List V) : Prop where
  ex : ∃ (C f : Addr) (fd : FuncData), mg n = some (.ref C) ∧ Cls K C ∧ Meth K C m f ∧ FunD K m qual (defArgs st) (defBody st) (defScope st) dvs [] f fd
structure MethR (P : Program) (w : World) (K : Fg) (mg : Str → Option Value) (base : Heap) (n m qual : Str) (st : Stmt) (dvs : List V) (ps : List Str) (k : Nat) (sp : Sp) : Prop where
  ex : ∃ (C f : Addr) (fd : FuncData), mg n = some (.ref C) ∧ Cls K C ∧ Meth K C m f ∧ FunD K m qual (defArgs st) (defBody st) (defScope st) dvs [] f fd ∧ FnOk P w K mg base (L2.CX P w) k f fd ps sp
section
variable {P : Program} {w : World} {K : Fg} {mg : Str → Option Value} {base : Heap} {n m qual : Str} {st : Stmt} {dvs : List V} {N ps : List Str} {k : Nat} {Wp : Wp} {fs : FS} {t : WX → TS}
theorem methQ {sp : Sp} (F : MethAt K mg n m qual st dvs) (S : FnScope N ps (defScope st)) (len : ∀ vs H Q E, sp vs H Q E → vs.length = ps.length)
    (hb : ∀ (cdv : Value) (A : Around) (outer : List PySem.Env) (s : Shared) (H : Hp) (E : XK) (f : Addr), Room k (A.deeper (envOfC qual (defScope st) s.heap.objs.size f cdv)) → PSs (cxOf (L2.CX P w) P w K mg base N qual (defScope st) f cdv A outer s H E) (defBody st) (t (WD E)))
    (hr : ∀ vs H Q E, sp vs H Q E → t (WD E) { nx := fun _ H' => Q .non H', rt := Q } (L2.start N vs) H) : MethR P w K mg base n m qual st dvs ps (k + 1) sp := by
  obtain ⟨C, f, fd, h1, h2, h3, h4⟩ := F.ex
  exact ⟨C, f, fd, h1, h2, h3, h4, h4.ok S len fun cdv A outer s H vs Q E hR h => ⟨t (WD E), hb cdv A outer s H E f hR, hr vs H Q E h⟩⟩
theorem methP (F : MethAt K mg n m qual st dvs) (S : FnScope N ps (defScope st)) (hn : ps.length ≤ N.length) (t : WX → TS)
    (hb : ∀ (cdv : Value) (A : Around) (outer : List PySem.Env) (s : Shared) (H : Hp) (E : XK) (f : Addr), Room k (A.deeper (envOfC qual (defScope st) s.heap.objs.size f cdv)) → PSs (cxOf (L2.CX P w) P w K mg base N qual (defScope st) f cdv A outer s H E) (defBody st) (t (WD E)))
    (hr : ∀ (c : Cn) (W : WX), c.W = Wp → RS c W (t W) fs) : MethR P w K mg base n m qual st dvs ps (k + 1) (spP Wp (fDef ps.length N.length fs)) :=
  methQ F S len_P hb fun vs H Q E h => body_P hr hn vs H Q E h
theorem methM {ks : List Bool} (F : MethAt K mg n m qual st dvs) (S : FnScope N ps (defScope st)) (hk : ks.length = ps.length) (hn : ps.length ≤ N.length) (t : WX → TS)
    (hb : ∀ (cdv : Value) (A : Around) (outer : List PySem.Env) (s : Shared) (H : Hp) (E : XK) (f : Addr), Room k (A.deeper (envOfC qual (defScope st) s.heap.objs.size f cdv)) → PSs (cxOf (L2.CX P w) P w K mg base N qual (defScope st) f cdv A outer s H E) (defBody st) (t (WD E)))
    (hr : ∀ (c : Cn) (W : WX), c.W = Wp → RS c W (t W) fs) : MethR P w K mg base n m qual st dvs ps (k + 1) (spM Wp ks (fDefM ks N.length fs)) :=
  methQ F S (fun vs H Q E h => (len_M vs H Q E h).trans hk) hb fun vs H Q E h => body_M hr (by omega) vs H Q E h
end
/-- o.m(..) -/
def tMethN (Wp : Wp) (n m : Str) (sp : Sp) (dv : List V) (E : L2.St → XK) (ta : TE) (t : TA) : TE := fun σ H Q => ta σ H fun x H1 => ∃ C a dx fs, Wp.cl n = some C ∧ x = .ref a ∧ H1 a = some (.ins C dx fs) ∧ fs.lookup m = none ∧ t σ H1 fun vs H2 => sp (x :: (vs ++ dv)) H2 Q (E σ)
section
variable {X : Cx} {k : Nat} {n m qual : Str} {st : Stmt} {dvs dv : List V} {ps : List Str} {sp : Sp} {W : WX} {o e : Expr} {es : List Expr} {ta : TE} {t : TA} {apos pos : Pos} {pl : Sem Bool}
theorem pe_methN (h : MethR X.prog X.w X.K X.mg X.base n m qual st dvs ps k sp) (hb : ∀ f fd, FunD X.K m qual (defArgs st) (defBody st) (defScope st) dvs [] f fd → ∃ ds, Vals dv ds ∧ Binds X.K fd ps ds) (hr : Room k X.A) (tk : Takes X W) (he : PE X o ta) (ha : PA X (e :: es) t)
    (hst : starEach (e :: es) X.env = (false, eval e X.env) :: starEach es X.env := by rfl) (hpl : (backTo pos (starEach es X.env)).any (·.1) = false := by rfl)
    (ht : eval (.Call (.Attribute o m apos) (e :: es) [] pos) X.env = (do
      let ov ← eval o X.env
      standAt apos.atName
      let (f, first) ← holding [ov] (getMethod ov m pl)
      callWith pos f first (backTo pos (starEach (e :: es) X.env)) (backToKw pos (keywordEach [] X.env))) := by rfl) :
    PE X (.Call (.Attribute o m apos) (e :: es) [] pos) (tMethN ⟨X.K, clOf X.mg, X.w⟩ n m sp dv (WE W) ta t) := by
  obtain ⟨C, f, fd, h1, c, hm, hF, F⟩ := h.ex
  obtain ⟨ds, hd, hbd⟩ := hb f fd hF
  refine ⟨fun pins s σ H Q I h => ?_⟩
  refine PySem.W.methodCall_KW (pl := pl) (thn (he.run pins s σ H _ I h) fun u s1 ⟨x, H1, I1, rx, C', a, dx, fs, hC, ex, ea, l, q⟩ => ?_) ht
  subst ex
  have eC : C' = C := by
    have hC' : clOf X.mg n = some C' := hC
    rw [clOf_of h1] at hC'
    exact (Option.some.inj hC').symm
  subst eC
  obtain rfl : u = Value.ref a := rx
  refine getmeth_ok I1 ea c hm l ?_
  refine PySem.W.callWith_K (first := [.ref a]) (h₀ := X.base) I.ok.mod.kin hm.kp (thn (ha.run pos pins s1 σ H1 _ I1 q) fun us s2 ⟨vs, H2, I2, r, q2⟩ => ⟨I2.kIn, ?_⟩) hst hpl
  exact run_fnSD (us := .ref a :: us) (vs := .ref a :: vs) F hr hbd hd (passAt tk σ) I2 (.cons rfl r) q2
theorem pe_methN0 (h : MethR X.prog X.w X.K X.mg X.base n m qual st dvs ps k sp) (hb : ∀ f fd, FunD X.K m qual (defArgs st) (defBody st) (defScope st) dvs [] f fd → ∃ ds, Vals dv ds ∧ Binds X.K fd ps ds) (hr : Room k X.A) (tk : Takes X W) (he : PE X o ta)
    (ht : eval (.Call (.Attribute o m apos) [] [] pos) X.env = (do
      let ov ← eval o X.env
      standAt apos.atName
      let (f, first) ← holding [ov] (getMethod ov m pl)
      callWith pos f first (backTo pos (starEach [] X.env)) (backToKw pos (keywordEach [] X.env))) := by rfl) :
    PE X (.Call (.Attribute o m apos) [] [] pos) (tMethN ⟨X.K, clOf X.mg, X.w⟩ n m sp dv (WE W) ta tNil) := by
  obtain ⟨C, f, fd, h1, c, hm, hF, F⟩ := h.ex
  obtain ⟨ds, hd, hbd⟩ := hb f fd hF
  refine ⟨fun pins s σ H Q I h => ?_⟩
  refine PySem.W.methodCall_KW (pl := pl) (thn (he.run pins s σ H _ I h) fun u s1 ⟨x, H1, I1, rx, C', a, dx, fs, hC, ex, ea, l, q⟩ => ?_) ht
  subst ex
  have eC : C' = C := by
    have hC' : clOf X.mg n = some C' := hC
    rw [clOf_of h1] at hC'
    exact (Option.some.inj hC').symm
  subst eC
  obtain rfl : u = Value.ref a := rx
  refine getmeth_ok I1 ea c hm l ?_
  exact PySem.W.callWith_K0 (first := [.ref a]) I1.kIn hm.kp (run_fnSD (us := [.ref a]) (vs := [.ref a]) F hr hbd hd (passAt tk σ) I1 (.cons rfl .nil) q)
end
theorem look_none {m : Str} : ∀ {fs : List (Str × V)}, m ∉ fs.map (·.1) → fs.lookup m = none
  | [], _ => rfl
  | (n, v) :: fs, h => by
    rw [List.lookup_cons]
    have h1 : m ≠ n := fun z => h (by rw [z]; simp)
    have : (m == n) = false := by simpa using h1
    rw [this]
    exact look_none fun z => h (by rw [List.map_cons]; exact List.mem_cons_of_mem _ z)
theorem RpF.insOf {Wp : Wp} {C H : Hp} {v : V} {o : Bool} {n m : Str} {ns : List Str} {ds : List D} {F : List Addr} (r : RpF Wp C H v (.ins o n ns ds) F) (s : Same C H) (h : m ∉ ns) : ∃ Ca a dx fs, Wp.cl n = some Ca ∧ v = .ref a ∧ H a = some (.ins Ca dx fs) ∧ fs.lookup m = none := by
  cases r with
  | inc hn hp hx rs => exact ⟨_, _, _, _, hn, rfl, s _ _ hp, look_none h⟩
  | ino hn hp hx rs => exact ⟨_, _, _, _, hn, rfl, hp, look_none h⟩
def isObj (n m : Str) : D → Bool
  | .ins _ n' ns _ => decide (n' = n ∧ m ∉ ns)
  | _ => false
def isObjO (n m : Str) : D → Bool
  | .ins true n' ns _ => decide (n' = n ∧ m ∉ ns)
  | _ => false
def fMeth (n m : Str) (F : List D → O D) (dv : List D) (a : FP) (as : FA) : FP := fun env => (a env).bind fun o => if isObj n m o = true then (as env).bind fun ds => F (o :: (ds ++ dv)) else .bad
theorem fMeth_e (n m : Str) (F : List D → O D) (dv : List D) (a : FP) (as : FA) (env : Env) : fMeth n m F dv a as env = (a env).bind fun o => if isObj n m o = true then (as env).bind fun ds => F (o :: (ds ++ dv)) else .bad := rfl
def fMethM (n m : Str) (ks : List Bool) (F : List D → OM) (dv : List D) (p : FPl) (as : Env → O (List AR)) : FX := fun env => match p env with
  | .bad => .bad
  | .exc x => .exc x env
  | .ok l => if isObjO n m l.e = true then fCallM ks F dv (fun env => (as env).bind fun as => .ok (.io l :: as)) env else .bad
section
variable {c : Cn} {W : WX} {te ta tb ti tx : TE} {fe fa fb fi fx : FP} {fp : FPl} {n m f : Str} {tas : TA} {fas : FA} {fr : Env → O (List AR)} {C H : Hp} {σ : L2.St} {env : Env} {T : List Ent} {dvv : List V} {dv : List D} {fm : FX} {ts tz : TS} {fs fz : FS}
theorem isObj_eq {d : D} (h : isObj n m d = true) : ∃ o ns ds, d = .ins o n ns ds ∧ m ∉ ns := by
  cases d with
  | ins o n' ns ds =>
    have h' := of_decide_eq_true (show decide (n' = n ∧ m ∉ ns) = true from h)
    obtain ⟨rfl, h2⟩ := h'
    exact ⟨o, ns, ds, rfl, h2⟩
  | _ => cases h
theorem isObjO_eq {d : D} (h : isObjO n m d = true) : ∃ ns ds, d = .ins true n ns ds ∧ m ∉ ns := by
  cases d with
  | ins o n' ns ds =>
    cases o with
    | false => cases h
    | true =>
      have h' := of_decide_eq_true (show decide (n' = n ∧ m ∉ ns) = true from h)
      obtain ⟨rfl, h2⟩ := h'
      exact ⟨ns, ds, rfl, h2⟩
  | _ => cases h
theorem rp_meth {F : List D → O D} (hdv : ∀ C H, RpFs c.W C H dvv dv []) (ha : RV c W ta fa) (hs : RAV c W tas fas) : RP c W (tMethN c.W n m (spP c.W F) dvv (WE W) ta tas) (fMeth n m F dv fa fas) := fun σ H C env T s Q q x nb =>
  ha σ H C env T s _ (fun d v H1 C1 F1 e1 s1 k1 t1 r1 => by
    unfold fMeth at q x nb
    rw [e1, O.bind_ok] at q x nb
    by_cases ho : isObj n m d = true
    · rw [if_pos ho] at q x nb
      obtain ⟨o, ns, ds, ed, hm⟩ := isObj_eq ho
      subst ed
      obtain ⟨Ca, a, dx, fs, h1, h2, h3, h4⟩ := r1.insOf s1.w.sub hm
      refine ⟨Ca, a, dx, fs, h1, h2, h3, h4, ?_⟩
      refine hs σ H1 C1 env T s1 _ (fun es vs H2 C2 G e2 s2 k2 t2 r2 => ?_) (fun y cl dx H' C' e2 s2 k2 t2 => x y cl dx H' C' (by rw [e2]; rfl) s2 (k1.trans k2) (t1.trans t2)) (fun e2 => nb (by rw [e2]; rfl))
      rw [e2, O.bind_ok] at q x nb
      refine ⟨C2, .ins o n ns ds :: (es ++ dv), _, s2.w.sub, .cons (r1.keep k2 t2) (r2.app (hdv C2 H2)), fun d v H3 C3 e3 w3 => ?_, fun y cl dx H3 C3 e3 w3 xr => ?_, nb⟩
      · exact q d v H3 C3 e3 ⟨s2.e, by
          have w4 := Wld.after s2.w w3
          exact w4⟩ ((k1.trans k2).trans w3.ext) ((t1.trans t2).trans fun a o e => w3.same a o (by simp) e)
      · exact x y cl dx H3 C3 e3 ⟨s2.e, by
          have w4 := Wld.after s2.w w3
          exact w4⟩ ((k1.trans k2).trans w3.ext) ((t1.trans t2).trans fun a o e => w3.same a o (by simp) e) xr
    · rw [if_neg ho] at nb; exact absurd rfl nb)
  (fun y cl dx H' C' e1 => x y cl dx H' C' (by unfold fMeth; rw [e1]; rfl)) (fun e1 => nb (by unfold fMeth; rw [e1]; rfl))
theorem rm_meth {ks : List Bool} {F : List D → OM} (hdv : ∀ C H, RpFs c.W C H dvv dv []) (ha : RPl c W ta fp) (hs : RAR c W tas fr) : RM c W (tMethN c.W n m (spM c.W ks F) dvv (WE W) ta tas) (fMethM n m ks F dv fp fr) := fun σ H C env T s Q q x nb =>
  ha σ H C env T s _ (fun l v H1 C1 e1 s1 k1 t1 hl => by
    unfold fMethM at q x nb
    rw [e1] at q x nb
    dsimp only at q x nb
    by_cases ho : isObjO n m l.e = true
    · rw [if_pos ho] at q x nb
      obtain ⟨ns, ds, ed, hm⟩ := isObjO_eq ho
      obtain ⟨G, rv⟩ := hl.view s1
      rw [ed] at rv
      obtain ⟨Ca, a, dx, fs, h1, h2, h3, h4⟩ := rv.insOf s1.w.sub hm
      refine ⟨Ca, a, dx, fs, h1, h2, h3, h4, ?_⟩
      unfold fCallM at q x nb
      dsimp only at q x nb
      refine hs σ H1 C1 env T s1 _ (fun as vs H2 C2 e2 s2 k2 t2 ha2 => ?_) (fun y cl dx H' C' e2 s2 k2 t2 xr => x y env cl dx H' C' (by rw [e2]; rfl) s2 (k1.trans k2) xr) (fun e2 => nb (by rw [e2]; rfl))
      rw [e2, O.bind_ok] at q x nb
      dsimp only at q x nb
      by_cases hc : (AR.io l :: as ++ dv.map AR.cl).map AR.k = ks ∧ (ioI (AR.io l :: as)).Nodup ∧ clos dv = true
      · rw [if_pos hc] at q x nb
        cases hm : mutEs env (ioI (AR.io l :: as)) with
        | none => rw [hm] at nb; exact absurd rfl nb
        | some ds0 =>
          rw [hm] at q x nb
          dsimp only at q x nb
          exact callM_ok (Q := Q) (E := WE W σ) (F := F) s2 (.cons (.io (hl.mono t2)) ha2) hdv hc.1 hc.2.1 hm (fun d io v H' C' e s' k => q d _ v H' C' (by rw [e]) s' ((k1.trans k2).trans k)) (fun y io cl dx H' C' e s' k xr => x y _ cl dx H' C' (by rw [e]) s' ((k1.trans k2).trans k) xr) (fun e => nb (by rw [e]))
      · rw [if_neg hc] at nb; exact absurd rfl nb
    · rw [if_neg ho] at nb; exact absurd rfl nb)
  (fun y cl dx H' C' e1 s1 k1 t1 xr => x y env cl dx H' C' (by unfold fMethM; rw [e1]) s1 k1 xr) (fun e1 => nb (by unfold fMethM; rw [e1]))
/-! statements with such a call -/
def fDropM (m : FX) : FS := fun env => match m env with
  | .ok _ e => .nx e
  | .exc x e => .exc x e
  | .bad => .bad
def fSetM (i : Nat) (m : FX) : FS := fun env => match m env with
  | .ok d e => .nx (e.set i (.own d))
  | .exc x e => .exc x e
  | .bad => .bad
def fRetM (m : FX) : FS := fun env => match m env with
  | .ok d e => .ret d e
  | .exc x e => .exc x e
  | .bad => .bad
def fOpM (g : D → D → Option D) (m : FX) (b : FP) : FX := fun env => match m env with
  | .ok d e => match b e with
    | .ok d2 => match g d d2 with
      | some r => .ok r e
      | none => .bad
    | .exc x => .exc x e
    | .bad => .bad
  | .exc x e => .exc x e
  | .bad => .bad
def fIfM (ng : Bool) (m : FX) (a b : FS) : FS := fun env => match m env with
  | .ok (.bl r) e => if (r != ng) = true then a e else b e
  | .exc x e => .exc x e
  | _ => .bad
theorem rs_dropM (h : RM c W te fm) : RS c W (tDrop te) (fDropM fm) := fun σ H C env T dn s n r b t x nb =>
  h σ H C env T s _ (fun d e v H' C' e1 s1 k1 => n e σ H' C' (by unfold fDropM; rw [e1]) s1.tail k1) (fun y e cl dx H' C' e1 s1 k1 => x y e cl dx σ H' C' (by unfold fDropM; rw [e1]) s1 k1) (fun e1 => nb (by unfold fDropM; rw [e1]))
end
end
end CV
namespace CV
noncomputable section
open PySem L2
open PyProof.Rows (envOfC)
/-! ### own instances are made -/
def sFldN (Wp : Wp) (n f : Str) (ta tv : TE) : TS := fun D σ H => tv σ H fun y H1 => ta σ H1 fun x H2 => ∃ a C dx fs, Wp.cl n = some C ∧ x = .ref a ∧ H2 a = some (.ins C dx fs) ∧ fs.length < 1000 ∧ D.nx σ (upd H2 a (.ins C dx (putF f y fs)))
theorem ps_fldN {X : Cx} {cl : Str → Option Addr} {n f : Str} {o value : Expr} {ta tv : TE} {pos pos' : Pos} (hT : FldT ⟨X.K, cl, X.w⟩ n f) (ha : PE X o ta) (hv : PE X value tv) (hs : swapsWith value (some (.Attribute o f pos')) pos.line X.env = pure false := by rfl) :
    PS X (.Assign [.Attribute o f pos'] value pos) (sFldN ⟨X.K, cl, X.w⟩ n f ta tv) := by
  refine ⟨fun pins s σ H D I h => ?_⟩
  refine plainObj_wpAny_Assign_Attribute (thn (hv.run pins s σ H _ I h) fun u s1 ⟨y, H1, I1, ry, q⟩ => thn (ha.run pins s1 σ H1 _ I1 q) fun ov s2 ⟨x, H2, I2, rx, a, C, dx, fs, hC, ex, ea, l, q2⟩ => ?_) hs
  subst ex
  obtain rfl : ov = Value.ref a := rx
  obtain ⟨c, n⟩ := hT C hC
  exact setattr_ok I2 ea c n l ry fun s3 I3 => ⟨σ, _, I3, q2⟩
/-- the instance in slot i gets a new field -/
def fFldSet (i : Nat) (n f : Str) (a : FP) : FS := fun env => (a env).st env fun d => match mutE env i with
  | some (.ins true n' ns ds) => if n' = n ∧ f ∉ ns ∧ ns.length < 1000 then .nx (env.set i (kindE env i (.ins true n (ns ++ [f]) (ds ++ [d])))) else .bad
  | _ => .bad
theorem fFldSet_e (i : Nat) (n f : Str) (a : FP) (env : Env) : fFldSet i n f a env = ((a env).st env fun d => match mutE env i with
  | some (.ins true n' ns ds) => if n' = n ∧ f ∉ ns ∧ ns.length < 1000 then .nx (env.set i (kindE env i (.ins true n (ns ++ [f]) (ds ++ [d])))) else .bad
  | _ => .bad) := rfl
theorem putF_new {f : Str} {y : V} : ∀ {fs : List (Str × V)}, f ∉ fs.map (·.1) → putF f y fs = fs ++ [(f, y)]
  | [], _ => rfl
  | (n, v) :: fs, h => by
    have h1 : n ≠ f := fun z => h (by rw [← z]; simp)
    show (if n = f then _ else (n, v) :: putF f y fs) = _
    rw [if_neg h1, putF_new fun z => h (by rw [List.map_cons]; exact List.mem_cons_of_mem _ z)]
    rfl
section
variable {c : Cn} {W : WX} {te ta tb ti tx : TE} {fe fa fb fi fx : FP} {fp : FPl} {n m f : Str} {tas : TA} {fas : FA} {dvv : List V} {dv : List D}
theorem rs_fldSet {i : Nat} (he : RP c W te fe) : RS c W (sFldN c.W n f (tVar i) te) (fFldSet i n f fe) := fun σ H C env T dn s n' r b t x nb =>
  he σ H C env T s _ (fun d v H1 C1 e1 s1 k1 t1 => by
    unfold fFldSet at n' x nb
    rw [e1, O.st_ok] at n' x nb
    cases hm : mutE env i with
    | none => rw [hm] at nb; exact absurd rfl nb
    | some z =>
      rw [hm] at n' nb
      obtain ⟨u, hu, s2, back⟩ := s1.takeM hm
      refine ⟨u, hu, ?_⟩
      cases z with
      | ins o nn ns ds =>
        cases o with
        | false => exact absurd rfl nb
        | true =>
          dsimp only at n' nb
          by_cases hc : nn = n ∧ f ∉ ns ∧ ns.length < 1000
          · rw [if_pos hc] at n'
            obtain ⟨rfl, hf, hl⟩ := hc
            obtain ⟨F, rv⟩ := s2.w.view (e := (u, .ins true nn ns ds)) (by simp)
            have rv' : RpF c.W C1 H1 u (.ins true nn ns ds) F := rv
            generalize hns : ns = ns0 at *
            cases rv' with
            | @ino p dx Ca _ fs _ F0 hn hp hx rs =>
              refine ⟨p, Ca, dx, fs, hn, rfl, hp, by rw [← List.length_map (f := (·.1))]; exact hl, n' _ σ _ C1 rfl (back C1 _ (env.set i .no) T _ ⟨s2.e, ?_⟩ |> fun z => by rwa [List.set_set] at z) k1⟩
              have hw : Wld c C1 H1 ((V.ref p, D.ins true nn (fs.map (·.1)) ds) :: ([(v, d)] ++ (T ++ slotsE σ (env.set i .no)))) := s2.w
              refine Wld.mut (X := [(v, d)]) hw fun F G r1 rX nd => ?_
              obtain ⟨w, ew, rw'⟩ := rps1 (show RpFs c.W C1 H1 ([(v, d)].map Prod.fst) [d] G from rX)
              have ew' : v = w := by simpa using ew
              subst ew'
              generalize hns : fs.map (·.1) = ns1 at r1
              cases r1 with
              | @ino _ dx' Ca' _ fs' _ F1 hn' hp' hx' rs' =>
                rw [hp] at hp'
                have hp'' := Option.some.inj hp'
                injection hp'' with e1 e2 e3
                subst e1 e2 e3
                have nd1 := List.nodup_cons.mp nd
                have nd2 := List.nodup_cons.mp nd1.2
                have np : ∀ a ∈ F1 ++ G, a ≠ p := fun a ha z => nd1.1 (by rw [← z]; exact List.mem_cons_of_mem _ ha)
                refine ⟨p :: dx :: (F1 ++ G), ?_, nd, by simp, fun a ha => ha⟩
                rw [putF_new hf]
                have e4 : fs.map (·.1) ++ [f] = (fs ++ [(f, v)]).map (·.1) := by rw [List.map_append]; rfl
                rw [e4]
                refine .ino hn' upd_same ((upd_ne fun z => nd1.1 (by rw [← z]; simp)).trans hx') ?_
                rw [List.map_append]
                exact (rs'.snoc rw').mono (Same.refl _) fun a ha => upd_ne (np a ha)
          · rw [if_neg hc] at nb; exact absurd rfl nb
      | _ => exact absurd rfl nb)
  (fun y cl dx H' C' e1 s1 k1 t1 xr => x y env cl dx σ H' C' (by unfold fFldSet; rw [e1]; rfl) s1 k1 xr) (fun e1 => nb (by unfold fFldSet; rw [e1]; rfl))
end
end
end CV
namespace CV
noncomputable section
open PySem L2
open PyProof.Rows (envOfC)
/-! ### C(..) of an own class -/
structure InitAt (K : Fg) (mg : Str → Option Value) (n qual : Str) (st : Stmt) (dvs : List V) : Prop where
  ex : ∃ (C f : Addr) (fd : FuncData), mg n = some (.ref C) ∧ Mk K C f ∧ FunD K "__init__" qual (defArgs st) (defBody st) (defScope st) dvs [] f fd
structure InitR (P : Program) (w : World) (K : Fg) (mg : Str → Option Value) (base : Heap) (n qual : Str) (st : Stmt) (dvs : List V) (ps : List Str) (k : Nat) (sp : Sp) : Prop where
  ex : ∃ (C f : Addr) (fd : FuncData), mg n = some (.ref C) ∧ Mk K C f ∧ FunD K "__init__" qual (defArgs st) (defBody st) (defScope st) dvs [] f fd ∧ FnOk P w K mg base (L2.CX P w) k f fd ps sp
section
variable {P : Program} {w : World} {K : Fg} {mg : Str → Option Value} {base : Heap} {n m qual : Str} {st : Stmt} {dvs : List V} {N ps : List Str} {k : Nat} {Wp : Wp} {fs : FS} {t : WX → TS}
theorem initM {ks : List Bool} (F : InitAt K mg n qual st dvs) (S : FnScope N ps (defScope st)) (hk : ks.length = ps.length) (hn : ps.length ≤ N.length) (t : WX → TS)
    (hb : ∀ (cdv : Value) (A : Around) (outer : List PySem.Env) (s : Shared) (H : Hp) (E : XK) (f : Addr), Room k (A.deeper (envOfC qual (defScope st) s.heap.objs.size f cdv)) → PSs (cxOf (L2.CX P w) P w K mg base N qual (defScope st) f cdv A outer s H E) (defBody st) (t (WD E)))
    (hr : ∀ (c : Cn) (W : WX), c.W = Wp → RS c W (t W) fs) : InitR P w K mg base n qual st dvs ps (k + 1) (spM Wp ks (fDefM ks N.length fs)) := by
  obtain ⟨C, f, fd, h1, h2, h4⟩ := F.ex
  exact ⟨C, f, fd, h1, h2, h4, h4.ok S (fun vs H Q E h => (len_M vs H Q E h).trans hk) fun cdv A outer s H vs Q E hR h => ⟨t (WD E), hb cdv A outer s H E f hR, body_M hr (by omega) vs H Q E h⟩⟩
end
def tMakeN (Wp : Wp) (n : Str) (sp : Sp) (dv : List V) (E : L2.St → XK) (t : TA) : TE := fun σ H Q => t σ H fun vs H1 => ∀ C, Wp.cl n = some C → ∀ x dx, H1 x = none → H1 dx = none → dx ≠ x →
  sp (.ref x :: (vs ++ dv)) (upd (upd H1 dx (.own x)) x (.ins C dx [])) (fun v H2 => v = .non ∧ Q (.ref x) H2) (E σ)
section
variable {X : Cx} {CX : CXT} {k : Nat} {f C : Addr} {fd : FuncData} {ps : List Str} {sp : Sp} {dvs dv : List V} {ds : List Value} {E : L2.St → XK} {n qual : Str} {st : Stmt} {W : WX} {p pos : Pos} {e : Expr} {es : List Expr} {t : TA}
theorem run_makeSD {pins : List (Addr × Obj)} {σ : L2.St} {H : Hp} {s : Shared} {Q : VK} {us : List Value} {vs : List V} (M : Mk X.K C f) (F : FnOk X.prog X.w X.K X.mg X.base CX k f fd ps sp) (hr : Room (k + 1) X.A) (hb : Binds X.K fd ps ds) (hd : Vals dv ds)
    (hx : PassesAt CX X σ (E σ)) (I : Inv X pins σ H s) (r : Vals vs us)
    (h : ∀ x dx, H x = none → H dx = none → dx ≠ x → sp (.ref x :: (vs ++ dv)) (upd (upd H dx (.own x)) x (.ins C dx [])) (fun v H2 => v = .non ∧ Q (.ref x) H2) (E σ)) :
    wpAny (model X.prog X.w) X.A (call (.ref C) us) (EP X pins σ Q) X.xe s := by
  have hq := h (s.heap.objs.size + 1) s.heap.objs.size (I.hok.fresh (Nat.le_succ _)) (I.hok.fresh (Nat.le_refl _)) (Nat.ne_of_lt (Nat.lt_succ_self _))
  have I2 := Inv.made (C := C) I
  have r2 : Vals (V.ref (s.heap.objs.size + 1) :: (vs ++ dv)) (Value.ref (s.heap.objs.size + 1) :: (us ++ ds)) := .cons rfl (r.append hd)
  have hl : (Value.ref (s.heap.objs.size + 1) :: us ++ ds).length = ps.length := by
    have e := r2.length
    rw [F.len _ _ _ _ hq] at e
    exact e.symm
  refine wpAny_call (make_map (f := f) I.kIn M.makes M.init (beq_iff_eq.mp M.fn) (codeAny_mono (F.run _ X.stack _ _ ⟨Value.ref (s.heap.objs.size + 1) :: us, []⟩ (Value.ref (s.heap.objs.size + 1) :: (us ++ ds)) _ _ (E σ) (hr.make C us [])
    (I2.env0.make C us []) (hb _ (Value.ref (s.heap.objs.size + 1) :: us) I2.kIn hl) r2 hq) fun r s' hq' => ?_))
  cases r with
  | error e => exact hx pins _ _ e s' I2 hq'
  | ok fl =>
    cases fl with
    | ret u =>
      obtain ⟨v, H', I3, rv, ev, q3⟩ := I2.after hq'
      subst ev
      exact ⟨rv, ⟨V.ref (s.heap.objs.size + 1), H', I3, rfl, q3⟩⟩
    | next => exact False.elim hq'
    | brk => exact False.elim hq'
    | cont => exact False.elim hq'
theorem pe_makeN0 (h : InitR X.prog X.w X.K X.mg X.base n qual st dvs ps k sp) (hb : ∀ f fd, FunD X.K "__init__" qual (defArgs st) (defBody st) (defScope st) dvs [] f fd → ∃ ds, Vals dv ds ∧ Binds X.K fd ps ds) (hr : Room (k + 1) X.A) (tk : Takes X W) (hg : Gl X n := by rfl)
    (hdb : (n == ("__debug__" : Str)) = false := by decide) : PE X (.Call (.Name n p) [] [] pos) (tMakeN ⟨X.K, clOf X.mg, X.w⟩ n sp dv (WE W) tNil) := by
  obtain ⟨C, f, fd, h1, M, hF, F⟩ := h.ex
  obtain ⟨ds, hd, hbd⟩ := hb f fd hF
  refine ⟨fun pins s σ H Q I h => ?_⟩
  refine wpAny_Call_Name_kw (ld_glob I hg h1 ?_ hdb)
  exact PySem.W.callWith_K0 I.kIn M.kp (run_makeSD (us := []) (E := WE W) M F hr hbd hd (passAt tk σ) I .nil (h C (clOf_of h1)))
end
section
variable {c : Cn} {W : WX} {n : Str} {tas : TA} {fas : Env → O (List AR)} {dvv : List V} {dv : List D} {C H : Hp}
theorem Wld.mkIns {L : List Ent} {x dx Ca : Addr} (k : Wld c C H L) (hn : c.W.cl n = some Ca) (hx : H x = none) (hd : H dx = none) (ne : dx ≠ x) : Wld c C (upd (upd H dx (.own x)) x (.ins Ca dx [])) ((.ref x, .ins true n [] []) :: L) := by
  have k1 := k.opened (o := .own x) hd
  have hx1 : (upd H dx (.own x)) x = none := by rw [upd_ne ne.symm]; exact hx
  have k2 := k1.opened (o := .ins Ca dx []) hx1
  obtain ⟨F, h1, h2, h3⟩ := k.own
  have n1 : ∀ a ∈ F, a ≠ x := fun a ha z => RpFs.there h1 a ha (by rw [z]; exact hx)
  have n2 : ∀ a ∈ F, a ≠ dx := fun a ha z => RpFs.there h1 a ha (by rw [z]; exact hd)
  refine ⟨k2.same, k2.sub, k2.ext, k2.new, k2.old, (x :: dx :: []) ++ F, RpFs.cons (.ino (fs := []) hn upd_same ((upd_ne ne).trans upd_same) .nil) (RpFs.mono (Same.refl _) (fun a ha => by rw [upd_ne (n1 a ha), upd_ne (n2 a ha)]) h1), ?_, fun a ha => ?_⟩
  · show (x :: dx :: F).Nodup
    exact List.nodup_cons.mpr ⟨fun z => (List.mem_cons.mp z).elim (fun y => ne y.symm) fun y => n1 x y rfl, List.nodup_cons.mpr ⟨fun z => n2 dx z rfl, h2⟩⟩
  · rcases List.mem_cons.mp (show a ∈ x :: dx :: F from ha) with q | q
    · rw [q]; exact k.fresh hx
    · rcases List.mem_cons.mp q with q | q
      · rw [q]; exact k.fresh hd
      · exact h3 a q
def fMake (n : Str) (ks : List Bool) (F : List D → OM) (dv : List D) (as : Env → O (List AR)) : FP := fun env => (as env).bind fun as => if ks = true :: (as ++ dv.map AR.cl).map AR.k ∧ ioI as = [] then match F (.ins true n [] [] :: (as.map AR.d ++ dv)) with
  | .ok .non [d] => .ok d
  | .exc x _ => .exc x
  | _ => .bad
  else .bad
theorem fMake_e (n : Str) (ks : List Bool) (F : List D → OM) (dv : List D) (as : Env → O (List AR)) (env : Env) : fMake n ks F dv as env = (as env).bind fun as => if ks = true :: (as ++ dv.map AR.cl).map AR.k ∧ ioI as = [] then match F (.ins true n [] [] :: (as.map AR.d ++ dv)) with
  | .ok .non [d] => .ok d
  | .exc x _ => .exc x
  | _ => .bad
  else .bad := rfl
theorem pick_none {α : Type} : ∀ {as : List AR} (xs : List α), ioI as = [] → pick (as.map AR.k) xs = []
  | [], xs, _ => by cases xs <;> rfl
  | .cl d :: as, [], _ => rfl
  | .cl d :: as, x :: xs, h => pick_none (as := as) xs h
  | .vw i d :: as, [], _ => rfl
  | .vw i d :: as, x :: xs, h => pick_none (as := as) xs h
  | .io l :: as, xs, h => by cases h
theorem rp_make {ks : List Bool} {F : List D → OM} (hdv : ∀ C H, RpFs c.W C H dvv dv []) (hs : RAR c W tas fas) : RP c W (tMakeN c.W n (spM c.W ks F) dvv (WE W) tas) (fMake n ks F dv fas) := fun σ H C env T s Q q x nb =>
  hs σ H C env T s _ (fun as vs H1 C1 e1 s1 k1 t1 ho => by
    unfold fMake at q x nb
    rw [e1, O.bind_ok] at q x nb
    by_cases hc : ks = true :: (as ++ dv.map AR.cl).map AR.k ∧ ioI as = []
    · rw [if_pos hc] at q x nb
      intro Ca hCa p dx hp hd ne
      have w2 := s1.w.mkIns hCa hp hd ne
      have s12 : Same H1 (upd (upd H1 dx (.own p)) p (.ins Ca dx [])) := fun a o e => by rw [upd_ne (ne_of_none e hp), upd_ne (ne_of_none e hd)]; exact e
      have ho2 : ArsOk c C1 (upd (upd H1 dx (.own p)) p (.ins Ca dx [])) σ env (as ++ dv.map AR.cl) (vs ++ dvv) := (ho.app (clos_ars (hdv C1 H1))).mono (Same.refl _) s12
      have em : (as ++ dv.map AR.cl).map AR.d = as.map AR.d ++ dv := by
        rw [List.map_append, List.map_map]
        congr 1
        exact (List.map_congr_left (g := id) fun d _ => rfl).trans (List.map_id dv)
      have pk : ∀ {α : Type} (y : α) (ys : List α), pick ks (y :: ys) = [y] := fun {α} y ys => by
        rw [hc.1]
        show y :: pick _ ys = [y]
        rw [pick_none (as := as ++ dv.map AR.cl) ys (by rw [ioI_cl]; exact hc.2)]
      have l0 := ho2.len
      have fin : ∀ {d : D} {io : List D} {v : V} {H' C' : Hp}, io.length = 1 → ∃ e, io = [e] := fun {d io v H' C'} h => by
        match io, h with
        | [e], _ => exact ⟨e, rfl⟩
      have tH : ∀ {H' : Hp}, (∀ a o, (upd (upd H1 dx (.own p)) p (.ins Ca dx [])) a = some o → (∀ G, RpFs c.W C1 (upd (upd H1 dx (.own p)) p (.ins Ca dx [])) [.ref p] [.ins true n [] []] G → a ∉ G) → H' a = some o) → Same H1 H' := fun {H'} h a o e => by
        refine h a o (s12 a o e) fun G g hg => ?_
        generalize hz : ([] : List Str) = z0 at g
        cases g with
        | cons g1 g2 =>
          cases g2
          cases g1 with
          | @ino _ dx' _ _ fs _ F0 hn' hp' hx' rs =>
            rw [upd_same] at hp'
            have hp'' := Option.some.inj hp'
            injection hp'' with e1 e2 e3
            subst e2
            subst e3
            cases rs
            rw [List.append_nil] at hg
            rcases List.mem_cons.mp hg with y | y
            · exact ne_of_none e hp y
            · exact ne_of_none e hd (by simpa using y)
      refine callW (C := C1) (vs0 := [.ref p]) (ds0 := [.ins true n [] []]) (ps := [[]]) (L := T ++ slotsE σ env) (ds := .ins true n [] [] :: (as.map AR.d ++ dv)) w2 (by rw [hc.1]; simp [l0]) (by rw [hc.1, ← em]; simp) (by rw [pk]; rfl) (by rw [pk]; exact .cons .nil .nil)
        (fun i v d e1 e2 e3 => ?_) (fun d io v H' C' e w hl k1' st => ?_) (fun y io cl dx H' C' e w hl k1' st xr => ?_) (fun e => nb (by rw [e]))
      · cases i with
        | zero => rw [hc.1] at e3; cases e3
        | succ i =>
          have e1' : (vs ++ dvv)[i]? = some v := by simpa using e1
          obtain ⟨a, x1, x2⟩ := ho2.get e1'
          have e2' : (as.map AR.d ++ dv)[i]? = some d := by simpa using e2
          rw [← em, List.getElem?_map, x1] at e2'
          rw [hc.1] at e3
          have e3' : ((as ++ dv.map AR.cl).map AR.k)[i]? = some false := by simpa using e3
          rw [List.getElem?_map, x1] at e3'
          cases x2 with
          | cl r =>
            cases e2'
            exact ⟨[], r, fun a ha => by simp at ha⟩
          | io r => cases e3'
          | vw y1 y2 =>
            cases e2'
            obtain ⟨u, Fu, b1, b2, b3⟩ := s1.e.bor _ _ y1
            rw [y2] at b1
            cases b1
            have b2' := (s1.w.bor b2 b3)
            exact ⟨Fu, b2'.keep (Same.refl _) s12, fun a ha => ⟨b2.there a ha, b3 a ha⟩⟩
      · obtain ⟨e', rfl⟩ := fin (d := d) (v := v) (H' := H') (C' := C') hl
        rw [e] at q nb
        cases d with
        | non =>
          have w' : Wld c C' H' ((v, .non) :: (.ref p, e') :: (T ++ slotsE σ env)) := w
          obtain ⟨F, rv⟩ := w'.view (e := (v, .non)) (by simp)
          have rv' : RpF c.W C' H' v .non F := rv
          have ev : v = .non := by cases rv'; rfl
          exact ⟨ev, q e' _ H' C' rfl ⟨s1.e, w'.tail⟩ (k1.trans k1') (t1.trans (tH st))⟩
        | _ => exact absurd rfl nb
      · obtain ⟨e', rfl⟩ := fin (d := .non) (v := .non) (H' := H') (C' := C') hl
        rw [e] at x nb
        have w' : Wld c C' H' ((.ref p, e') :: (T ++ slotsE σ env)) := w
        exact x y cl dx H' C' rfl ⟨s1.e, w'.tail⟩ (k1.trans k1') (t1.trans (tH st)) xr
    · rw [if_neg hc] at nb; exact absurd rfl nb)
  (fun y cl dx H' C' e1 => x y cl dx H' C' (by unfold fMake; rw [e1]; rfl)) (fun e1 => nb (by unfold fMake; rw [e1]; rfl))
end
end
end CV
namespace CV
noncomputable section
open PySem L2
/-! ### equation lemmas of calls that change what slots hold -/
def OE.st (o : OE) (f : D → Env → R) : R := match o with
  | .ok d e => f d e
  | .exc x e => .exc x e
  | .bad => .bad
def OE.bd (o : OE) (f : D → Env → OE) : OE := match o with
  | .ok d e => f d e
  | .exc x e => .exc x e
  | .bad => .bad
def OM.oe (o : OM) (g : List D → Env) : OE := match o with
  | .ok d io => .ok d (g io)
  | .exc x io => .exc x (g io)
  | .bad => .bad
def O.oe {α : Type} (o : O α) (e : Env) (f : α → OE) : OE := match o with
  | .ok a => f a
  | .exc x => .exc x e
  | .bad => .bad
def ooe {α : Type} (o : Option α) (f : α → OE) : OE := match o with
  | some a => f a
  | none => .bad
theorem OEst_ok (d : D) (e : Env) (f : D → Env → R) : (OE.ok d e).st f = f d e := rfl
theorem OEst_exc (x : Exc) (e : Env) (f : D → Env → R) : (OE.exc x e).st f = .exc x e := rfl
theorem OEst_bad (f : D → Env → R) : OE.bad.st f = .bad := rfl
theorem OEbd_ok (d : D) (e : Env) (f : D → Env → OE) : (OE.ok d e).bd f = f d e := rfl
theorem OEbd_exc (x : Exc) (e : Env) (f : D → Env → OE) : (OE.exc x e).bd f = .exc x e := rfl
theorem OEbd_bad (f : D → Env → OE) : OE.bad.bd f = .bad := rfl
theorem OMoe_ok (d : D) (io : List D) (g : List D → Env) : (OM.ok d io).oe g = .ok d (g io) := rfl
theorem OMoe_exc (x : Exc) (io : List D) (g : List D → Env) : (OM.exc x io).oe g = .exc x (g io) := rfl
theorem OMoe_bad (g : List D → Env) : OM.bad.oe g = .bad := rfl
theorem Ooe_ok {α : Type} (a : α) (e : Env) (f : α → OE) : (O.ok a).oe e f = f a := rfl
theorem Ooe_exc {α : Type} (x : Exc) (e : Env) (f : α → OE) : (O.exc x : O α).oe e f = .exc x e := rfl
theorem Ooe_bad {α : Type} (e : Env) (f : α → OE) : (O.bad : O α).oe e f = .bad := rfl
theorem ooe_some {α : Type} (a : α) (f : α → OE) : ooe (some a) f = f a := rfl
theorem ooe_none {α : Type} (f : α → OE) : ooe (none : Option α) f = .bad := rfl
theorem fDropM_e (m : FX) (env : Env) : fDropM m env = (m env).st fun _ e => .nx e := by unfold fDropM; cases m env <;> rfl
theorem fSetM_e (i : Nat) (m : FX) (env : Env) : fSetM i m env = (m env).st fun d e => .nx (e.set i (.own d)) := by unfold fSetM; cases m env <;> rfl
theorem fRetM_e (m : FX) (env : Env) : fRetM m env = (m env).st fun d e => .ret d e := by unfold fRetM; cases m env <;> rfl
theorem fOpM_e (g : D → D → Option D) (m : FX) (b : FP) (env : Env) : fOpM g m b env = (m env).bd fun d e => (b e).oe e fun d2 => ooe (g d d2) fun r => .ok r e := by
  unfold fOpM
  cases m env with
  | ok d e =>
    dsimp only [OE.bd]
    cases b e with
    | ok d2 =>
      dsimp only [O.oe]
      cases g d d2 <;> rfl
    | _ => rfl
  | _ => rfl
def ifR (ng : Bool) (a b : FS) (d : D) (e : Env) : R := match d with
  | .bl r => if (r != ng) = true then a e else b e
  | _ => .bad
theorem fIfM_e (ng : Bool) (m : FX) (a b : FS) (env : Env) : fIfM ng m a b env = (m env).st (ifR ng a b) := by
  unfold fIfM
  cases m env with
  | ok d e => cases d <;> rfl
  | _ => rfl
theorem ifR_tt (a b : FS) (e : Env) : ifR true a b (.bl true) e = b e := rfl
theorem ifR_tf (a b : FS) (e : Env) : ifR true a b (.bl false) e = a e := rfl
theorem ifR_ft (a b : FS) (e : Env) : ifR false a b (.bl true) e = a e := rfl
theorem ifR_ff (a b : FS) (e : Env) : ifR false a b (.bl false) e = b e := rfl
def callR (ks : List Bool) (F : List D → OM) (dv : List D) (env : Env) (as : List AR) : OE :=
  if (as ++ dv.map AR.cl).map AR.k = ks ∧ (ioI as).Nodup ∧ clos dv = true then ooe (mutEs env (ioI as)) fun ds0 => (F (as.map AR.d ++ dv)).oe fun io => outM env as ds0 io else .bad
theorem fCallM_e (ks : List Bool) (F : List D → OM) (dv : List D) (a : Env → O (List AR)) (env : Env) : fCallM ks F dv a env = (a env).oe env (callR ks F dv env) := by
  unfold fCallM
  cases a env with
  | ok as =>
    dsimp only [O.oe, callR]
    split
    · cases mutEs env (ioI as) with
      | none => rfl
      | some ds0 =>
        dsimp only [ooe]
        cases F (as.map AR.d ++ dv) <;> rfl
    · rfl
  | _ => rfl
theorem fMethM_e (n m : Str) (ks : List Bool) (F : List D → OM) (dv : List D) (p : FPl) (as : Env → O (List AR)) (env : Env) : fMethM n m ks F dv p as env = (p env).oe env fun l => if isObjO n m l.e = true then (as env).oe env fun as => callR ks F dv env (.io l :: as) else .bad := by
  unfold fMethM
  cases p env with
  | ok l =>
    dsimp only [O.oe]
    split
    · rw [fCallM_e]
      cases as env <;> rfl
    · rfl
  | _ => rfl
/-- one argument is changed: what stands in slot i, at the path p -/
theorem callR_1 {ks : List Bool} {F : List D → OM} {dv : List D} {env : Env} {as : List AR} {i : Nat} {p : List Stp} {d0 : D} (hi : ioI as = [i]) (hp : ioP as = [p]) (hk : (as ++ dv.map AR.cl).map AR.k = ks) (hv : clos dv = true) (hm : mutE env i = some d0) :
    callR ks F dv env as = (F (as.map AR.d ++ dv)).oe fun io => match io with
      | e' :: _ => (env.set i .no).set i (kindE env i (setP p d0 e'))
      | [] => env.set i .no := by
  unfold callR
  rw [if_pos ⟨hk, by rw [hi]; simp, hv⟩, hi]
  have : mutEs env [i] = some [d0] := by
    show (mutE env i).bind _ = _
    rw [hm]; rfl
  rw [this, ooe_some]
  congr 1
  funext io
  unfold outM
  rw [hi, hp]
  cases io <;> rfl
theorem fplVar_e (i : Nat) (env : Env) : fplVar i env = (match mutE env i with | some d => .ok ⟨i, [], d⟩ | none => .bad) := rfl
theorem mutE_e (i : Nat) (env : Env) : mutE env i = (match env[i]? with | some (.own d) => some d | some (.io d) => some d | _ => none) := rfl
theorem kindE_e (i : Nat) (env : Env) (d : D) : kindE env i d = (match env[i]? with | some (.io _) => .io d | _ => .own d) := rfl
theorem putPl_e (env : Env) (l : Pl) (e : D) : putPl env l e = (match mutE env l.i with | some d => env.set l.i (kindE env l.i (setP l.p d e)) | none => env) := rfl
def plFld (n f : Str) (l : Pl) : O Pl := match l.e with
  | .ins true n' ns ds => if n' = n then (match fidx ns f with
    | some k => match ds[k]? with
      | some e => .ok ⟨l.i, l.p ++ [.fld k], e⟩
      | none => .bad
    | none => .bad) else .bad
  | _ => .bad
theorem fplFld_e (n f : Str) (a : FPl) (env : Env) : fplFld n f a env = (a env).bind (plFld n f) := rfl
def plIx (l : Pl) (j : D) : O Pl := match l.e, j with
  | .lst true ds, .int z => match ixN ds.length z with
    | some k => match ds[k]? with
      | some e => .ok ⟨l.i, l.p ++ [.ix k], e⟩
      | none => .bad
    | none => .bad
  | _, _ => .bad
theorem fplIx_e (a : FPl) (b : FP) (env : Env) : fplIx a b env = (a env).bind fun l => (b env).bind (plIx l) := rfl
def appR1 (env : Env) (l : Pl) (o : Option D) : R := match o with
  | some e => .nx (putPl env l e)
  | none => .bad
theorem fPl1_e' (kd : D → Bool) (g : D → D → Option D) (p : FPl) (a : FP) (env : Env) : fPl1 kd g p a env = ((p env).st env fun l => if kd l.e = true then (a env).st env fun x => appR1 env l (g l.e x) else .bad) := rfl
theorem fStoreP_e' (p : FPl) (fi fe : FP) (env : Env) : fStoreP p fi fe env = ((fe env).st env fun e => (p env).st env fun l => (fi env).st env fun i => appR1 env l (gStoreC l.e i e)) := rfl
theorem appR1_some (env : Env) (l : Pl) (e : D) : appR1 env l (some e) = .nx (putPl env l e) := rfl
theorem setP_nil (d e : D) : setP [] d e = e := rfl
theorem setP_ix (k : Nat) (p : List Stp) (ds : List D) (e : D) : setP (.ix k :: p) (.lst true ds) e = .lst true (ds.set k (setP p (ds.getD k .non) e)) := rfl
theorem fDefM_e {ks : List Bool} {N : Nat} {fs : FS} {ds : List D} (h : ds.length = ks.length) : fDefM ks N fs ds = endM ks (fs (envM ks ds ++ List.replicate (N - ks.length) Sl.no)) := by unfold fDefM; rw [if_pos h]
theorem envM_t (ks : List Bool) (d : D) (ds : List D) : envM (true :: ks) (d :: ds) = .io d :: envM ks ds := rfl
theorem envM_f (ks : List Bool) (d : D) (ds : List D) : envM (false :: ks) (d :: ds) = .bor d :: envM ks ds := rfl
theorem envM_n : envM [] [] = [] := rfl
theorem endM_ret (ks : List Bool) (d : D) (e : Env) : endM ks (.ret d e) = (match iosOf ks e with | some io => .ok d io | none => .bad) := rfl
theorem endM_nx (ks : List Bool) (e : Env) : endM ks (.nx e) = (match iosOf ks e with | some io => .ok .non io | none => .bad) := rfl
theorem endM_exc (ks : List Bool) (x : Exc) (e : Env) : endM ks (.exc x e) = (match iosOf ks e with | some io => .exc x io | none => .bad) := rfl
theorem iosOf_t (ks : List Bool) (d : D) (e : Env) : iosOf (true :: ks) (.io d :: e) = (iosOf ks e).map (d :: ·) := rfl
theorem iosOf_f (ks : List Bool) (s : Sl) (e : Env) : iosOf (false :: ks) (s :: e) = iosOf ks e := rfl
theorem iosOf_n (e : Env) : iosOf [] e = some [] := by cases e <;> rfl
end
end CV
namespace CV
noncomputable section
open PySem L2
/-! ### books as data -/
theorem getD'_map {α κ β : Type} [DecidableEq κ] [DecidableEq α] {k : α → κ} (inj : ∀ a b, k a = k b → a = b) (v : β → D) (a : α) : ∀ l : List (α × β), getD' (l.map fun p => k p.1) (l.map fun p => v p.2) (k a) = (l.find? fun p => decide (p.1 = a)).map fun p => v p.2
  | [] => rfl
  | p :: l => by
    have ih := getD'_map inj v a l
    unfold getD' at ih ⊢
    rw [List.map_cons, List.map_cons, List.zip_cons_cons, List.find?_cons, List.find?_cons]
    by_cases e : p.1 = a
    · simp [e]
    · have e' : ¬ k p.1 = k a := fun z => e (inj _ _ z)
      simp only [e, e', decide_false]
      exact ih
def setA {α β : Type} [DecidableEq α] (l : List (α × β)) (a : α) (b : β) : List (α × β) := if a ∈ l.map (·.1) then l.map (fun p => if p.1 = a then (a, b) else p) else l ++ [(a, b)]
def delA {α β : Type} [DecidableEq α] (l : List (α × β)) (a : α) : List (α × β) := l.filter fun p => decide (p.1 ≠ a)
def getA {α β : Type} [DecidableEq α] (l : List (α × β)) (a : α) : Option β := (l.find? fun p => decide (p.1 = a)).map (·.2)
section
variable {α κ β : Type} [DecidableEq κ] [DecidableEq α] {k : α → κ}
theorem mem_kmap (inj : ∀ a b, k a = k b → a = b) {l : List (α × β)} {a : α} : (k a ∈ l.map fun p => k p.1) ↔ a ∈ l.map (·.1) := by
  rw [List.mem_map, List.mem_map]
  constructor
  · rintro ⟨p, h, e⟩; exact ⟨p, h, inj _ _ e⟩
  · rintro ⟨p, h, e⟩; exact ⟨p, h, by rw [e]⟩
theorem putKs_map (inj : ∀ a b, k a = k b → a = b) (l : List (α × β)) (a : α) (b : β) : putKs (l.map fun p => k p.1) (k a) = (setA l a b).map fun p => k p.1 := by
  unfold putKs setA
  by_cases h : a ∈ l.map (·.1)
  · rw [if_pos ((mem_kmap inj).mpr h), if_pos h, List.map_map]
    refine List.map_congr_left fun p _ => ?_
    show k p.1 = k (if p.1 = a then (a, b) else p).1
    by_cases e : p.1 = a
    · rw [if_pos e, e]
    · rw [if_neg e]
  · rw [if_neg fun z => h ((mem_kmap inj).mp z), if_neg h, List.map_append]
    rfl
theorem putDs_map (inj : ∀ a b, k a = k b → a = b) (v : β → D) (l : List (α × β)) (a : α) (b : β) : putDs (l.map fun p => k p.1) (l.map fun p => v p.2) (k a) (v b) = (setA l a b).map fun p => v p.2 := by
  unfold putDs setA
  by_cases h : a ∈ l.map (·.1)
  · rw [if_pos ((mem_kmap inj).mpr h), if_pos h, List.map_map]
    clear h
    induction l with
    | nil => rfl
    | cons p l ih =>
      rw [List.map_cons, List.map_cons, List.zip_cons_cons, List.map_cons, List.map_cons, ih]
      congr 1
      show (if k p.1 = k a then v b else v p.2) = v (if p.1 = a then (a, b) else p).2
      by_cases e : p.1 = a
      · rw [if_pos (by rw [e]), if_pos e]
      · rw [if_neg fun z => e (inj _ _ z), if_neg e]
  · rw [if_neg fun z => h ((mem_kmap inj).mp z), if_neg h, List.map_append]
    rfl
theorem getA_some {l : List (α × β)} {a : α} : (getA l a).isSome = true ↔ a ∈ l.map (·.1) := by
  unfold getA
  induction l with
  | nil => simp
  | cons p l ih =>
    rw [List.find?_cons]
    by_cases e : p.1 = a
    · simp [e]
    · have e2 : ¬ a = p.1 := fun z => e z.symm
      simp only [e, decide_false]
      rw [ih, List.map_cons, List.mem_cons]
      simp [e2]
theorem setA_len {l : List (α × β)} {a : α} {b : β} : (setA l a b).length ≤ l.length + 1 := by
  unfold setA
  split <;> simp
theorem keys_set {l : List (α × β)} {a : α} {b : β} (h : a ∉ l.map (·.1)) : setA l a b = l ++ [(a, b)] := by unfold setA; rw [if_neg h]
theorem keys_del {l : List (α × β)} {a c : α} : (c ∈ (delA l a).map (·.1)) ↔ c ≠ a ∧ c ∈ l.map (·.1) := by
  unfold delA
  rw [List.mem_map, List.mem_map]
  constructor
  · rintro ⟨p, h, e⟩
    obtain ⟨h1, h2⟩ := List.mem_filter.mp h
    exact ⟨fun z => (of_decide_eq_true h2) (by rw [e, z]), p, h1, e⟩
  · rintro ⟨h, p, h1, e⟩
    exact ⟨p, List.mem_filter.mpr ⟨h1, decide_eq_true (by rw [e]; exact h)⟩, e⟩
end
/-- words with their worths -/
def wK (l : List Nat) : KD := .k (.inr (S l))
theorem wK_inj : ∀ a b, wK a = wK b → a = b := fun a b h => by
  unfold wK at h
  injection h with h
  injection h with h
  exact S_inj h
def wD (o : Bool) (l : List (List Nat × Int)) : D := .dct o 0 (l.map fun p => wK p.1) (l.map fun p => .int p.2)
theorem wD_clos (l : List (List Nat × Int)) : clos (l.map fun p => D.int p.2) = true := clos_map (fun _ => rfl) _
theorem keyOf_str (w : List Nat) : keyOf (.str w) = some (wK w) := rfl
theorem wD_in (w : List Nat) (o : Bool) (l : List (List Nat × Int)) : gIn2 (.str w) (wD o l) = some (.bl (getA l w).isSome) := by
  show ((keyOf (.str w)).bind fun kk => if kindK kk = 0 then some (D.bl (getD' (l.map fun p => wK p.1) (l.map fun p => D.int p.2) kk).isSome) else none) = _
  rw [keyOf_str, Option.bind_some, if_pos (show kindK (wK w) = 0 from rfl), getD'_map wK_inj]
  unfold getA
  rw [Option.isSome_map, Option.isSome_map]
theorem wD_notin (w : List Nat) (o : Bool) (l : List (List Nat × Int)) : gNotIn2 (.str w) (wD o l) = some (.bl (!(getA l w).isSome)) := by
  unfold gNotIn2
  rw [wD_in]
theorem wD_ix (w : List Nat) (o : Bool) (l : List (List Nat × Int)) : gIx2 (wD o l) (.str w) = (getA l w).map .int := by
  show ((keyOf (.str w)).bind fun kk => if kindK kk = 0 then getD' (l.map fun p => wK p.1) (l.map fun p => D.int p.2) kk else none) = _
  rw [keyOf_str, Option.bind_some, if_pos (show kindK (wK w) = 0 from rfl), getD'_map wK_inj]
  unfold getA
  rw [Option.map_map]
  rfl
theorem wD_store (w : List Nat) (n : Int) (l : List (List Nat × Int)) (hl : l.length < 16777216) : gStoreC (wD true l) (.str w) (.int n) = some (wD true (setA l w n)) := by
  show ((keyOf (.str w)).bind fun kk => @ite _ (kindK kk = 0 ∧ clos (l.map fun p => D.int p.2) = true ∧ clo (D.int n) = true ∧ (l.map fun p => wK p.1).length < 16777216) (Classical.propDecidable _) (some (D.dct true 0 (putKs (l.map fun p => wK p.1) kk) (putDs (l.map fun p => wK p.1) (l.map fun p => D.int p.2) kk (.int n)))) none) = _
  rw [keyOf_str, Option.bind_some, if_pos ⟨rfl, wD_clos l, rfl, by rw [List.length_map]; exact hl⟩, putKs_map wK_inj l w n, putDs_map wK_inj D.int l w n]
  rfl
def sortW (l : List (List Nat)) : List (List Nat) := l.mergeSort leT
theorem wD_sort (o : Bool) (l : List (List Nat × Int)) (hl : l.length < 64) : gSortS [wD o l] = some (.lst true ((sortW (l.map (·.1))).map .str)) := by
  show (txtsOf (l.map fun p => wK p.1)).bind _ = _
  have : txtsOf (l.map fun p => wK p.1) = some (l.map (·.1)) := by
    clear hl
    induction l with
    | nil => rfl
    | cons p l ih =>
      rw [List.map_cons, List.map_cons]
      show (txtsOf (l.map fun p => wK p.1)).map _ = _
      rw [ih]
      simp [S]
  rw [this, Option.bind_some, if_pos (by rw [List.length_map]; exact hl)]
  rfl
/-! bits: numbers by keys of any depth -/
def bD (o : Bool) (m : List (NK × Int)) : D := .mix o (m.map fun p => id p.1) (m.map fun p => .int p.2)
def getB (m : List (NK × Int)) (k : NK) : Int := (getA m k).getD 0
theorem idInj : ∀ a b : NK, id a = id b → a = b := fun _ _ h => h
theorem bD_get {m : List (NK × Int)} {o : Bool} {d : D} {k : NK} (h : nkOf d = some k) (hk : k.ok = true) : gGet2 (bD o m) d (.int 0) = some (.int (getB m k)) := by
  show ((nkOf d).bind fun kk => if kk.ok = true ∧ clos (m.map fun p => D.int p.2) = true then some ((getD' (m.map fun p => id p.1) (m.map fun p => D.int p.2) kk).getD (.int 0)) else none) = _
  rw [h, Option.bind_some, if_pos ⟨hk, clos_map (fun _ => rfl) _⟩]
  rw [show k = id k from rfl, getD'_map idInj]
  unfold getB getA
  simp only [id_eq]
  cases (m.find? fun p => decide (p.1 = k)) <;> rfl
theorem bD_store {m : List (NK × Int)} {d : D} {k : NK} {n : Int} (h : nkOf d = some k) (hk : k.ok = true) (hl : m.length < 16777216) : gStoreC (bD true m) d (.int n) = some (bD true (setA m k n)) := by
  show ((nkOf d).bind fun kk => @ite _ (kk.ok = true ∧ clos (m.map fun p => D.int p.2) = true ∧ clo (D.int n) = true ∧ (m.map fun p => id p.1).length < 16777216) (Classical.propDecidable _) (some (D.mix true (putKs (m.map fun p => id p.1) kk) (putDs (m.map fun p => id p.1) (m.map fun p => D.int p.2) kk (.int n)))) none) = _
  rw [h, Option.bind_some, if_pos ⟨hk, clos_map (fun _ => rfl) _, rfl, by rw [List.length_map]; exact hl⟩, show k = id k from rfl, putKs_map idInj m k n, putDs_map idInj D.int m k n]
  rfl
/-! the book -/
def bookNs : List Str := ["worths", "row", "bits"]
def bookD (o : Bool) (w r b : D) : D := .ins o "Book" bookNs [w, r, b]
theorem ix_w : fidx bookNs "worths" = some 0 := by decide +kernel
theorem ix_r : fidx bookNs "row" = some 1 := by decide +kernel
theorem ix_b : fidx bookNs "bits" = some 2 := by decide +kernel
section
variable {o : Bool} {w r b e : D} {i : Nat} {p : List Stp}
theorem gFld_w : gFld "Book" "worths" (bookD o w r b) = some w := by
  show (if ("Book" : Str) = "Book" then (fidx bookNs "worths").bind fun k => [w, r, b][k]? else none) = _
  rw [if_pos rfl, ix_w]; rfl
theorem gFld_r : gFld "Book" "row" (bookD o w r b) = some r := by
  show (if ("Book" : Str) = "Book" then (fidx bookNs "row").bind fun k => [w, r, b][k]? else none) = _
  rw [if_pos rfl, ix_r]; rfl
theorem gFld_b : gFld "Book" "bits" (bookD o w r b) = some b := by
  show (if ("Book" : Str) = "Book" then (fidx bookNs "bits").bind fun k => [w, r, b][k]? else none) = _
  rw [if_pos rfl, ix_b]; rfl
theorem plFld_w : plFld "Book" "worths" ⟨i, p, bookD true w r b⟩ = .ok ⟨i, p ++ [.fld 0], w⟩ := by
  show (if ("Book" : Str) = "Book" then (match fidx bookNs "worths" with | some k => (match [w, r, b][k]? with | some e => O.ok (Pl.mk i (p ++ [Stp.fld k]) e) | none => .bad) | none => .bad) else .bad) = _
  rw [if_pos rfl, ix_w]; rfl
theorem plFld_r : plFld "Book" "row" ⟨i, p, bookD true w r b⟩ = .ok ⟨i, p ++ [.fld 1], r⟩ := by
  show (if ("Book" : Str) = "Book" then (match fidx bookNs "row" with | some k => (match [w, r, b][k]? with | some e => O.ok (Pl.mk i (p ++ [Stp.fld k]) e) | none => .bad) | none => .bad) else .bad) = _
  rw [if_pos rfl, ix_r]; rfl
theorem plFld_b : plFld "Book" "bits" ⟨i, p, bookD true w r b⟩ = .ok ⟨i, p ++ [.fld 2], b⟩ := by
  show (if ("Book" : Str) = "Book" then (match fidx bookNs "bits" with | some k => (match [w, r, b][k]? with | some e => O.ok (Pl.mk i (p ++ [Stp.fld k]) e) | none => .bad) | none => .bad) else .bad) = _
  rw [if_pos rfl, ix_b]; rfl
theorem setP_w : setP (.fld 0 :: p) (bookD true w r b) e = bookD true (setP p w e) r b := rfl
theorem setP_r : setP (.fld 1 :: p) (bookD true w r b) e = bookD true w (setP p r e) b := rfl
theorem setP_b : setP (.fld 2 :: p) (bookD true w r b) e = bookD true w r (setP p b e) := rfl
theorem obj_has : isObj "Book" "has" (bookD o w r b) = true := by
  show decide (("Book" : Str) = "Book" ∧ ("has" : Str) ∉ bookNs) = true
  decide +kernel
theorem obj_need : isObj "Book" "need" (bookD o w r b) = true := by
  show decide (("Book" : Str) = "Book" ∧ ("need" : Str) ∉ bookNs) = true
  decide +kernel
theorem obj_words : isObj "Book" "words" (bookD o w r b) = true := by
  show decide (("Book" : Str) = "Book" ∧ ("words" : Str) ∉ bookNs) = true
  decide +kernel
theorem obj_worth : isObj "Book" "worth" (bookD o w r b) = true := by
  show decide (("Book" : Str) = "Book" ∧ ("worth" : Str) ∉ bookNs) = true
  decide +kernel
theorem obj_fitting : isObj "Book" "fitting" (bookD o w r b) = true := by
  show decide (("Book" : Str) = "Book" ∧ ("fitting" : Str) ∉ bookNs) = true
  decide +kernel
theorem obj_put : isObjO "Book" "put" (bookD true w r b) = true := by
  show decide (("Book" : Str) = "Book" ∧ ("put" : Str) ∉ bookNs) = true
  decide +kernel
theorem obj_drop : isObjO "Book" "drop" (bookD true w r b) = true := by
  show decide (("Book" : Str) = "Book" ∧ ("drop" : Str) ∉ bookNs) = true
  decide +kernel
theorem obj_bits : isObjO "Book" "turn_bits" (bookD true w r b) = true := by
  show decide (("Book" : Str) = "Book" ∧ ("turn_bits" : Str) ∉ bookNs) = true
  decide +kernel
end
theorem plIx_0 {i : Nat} {p : List Stp} {a b : D} : plIx ⟨i, p, .lst true [a, b]⟩ (.int 0) = .ok ⟨i, p ++ [.ix 0], a⟩ := rfl
theorem plIx_1 {i : Nat} {p : List Stp} {a b : D} : plIx ⟨i, p, .lst true [a, b]⟩ (.int 1) = .ok ⟨i, p ++ [.ix 1], b⟩ := rfl
end
end CV
namespace CV
noncomputable section
open PySem L2 PySem.Spec PyProof.Rows
/-! ### xs.remove(w) of texts, w in xs -/
section
variable {X : Cx} {o e : Expr} {to te : TE} {apos cpos : Pos}
end
section
variable {c : Cn} {W : WX} {te ta ti tx : TE} {fe fa fi fx : FP} {fp : FPl} {n f : Str}
end
end
end CV
namespace CV
noncomputable section
open PySem L2 PySem.Spec PyProof.Rows
/-! ### sorted(text): its letters, fewer than 64 -/
end
end CV
namespace CV
noncomputable section
open PySem L2 PySem.Spec PyProof.Rows
/-! ### zip of two things, each a list, a tuple or a text -/
inductive ZS where
  | l (a : Addr) | t (a : Addr) | s (z : Str)
def ZS.items (K : Fg) (H : Hp) : ZS → List V → Prop
  | .l a, xs => SqL K H a xs
  | .t a, xs => SqT K H a xs
  | .s z, xs => xs = z.cps.toList.map fun c => .str ⟨#[c]⟩
def ZS.iter (tk : Tok) (it : Addr) (i : Nat) (h : Heap) : ZS → Prop
  | .l a => h.IsListIter it a i
  | .t a => h.IsTupleIter it a i
  | .s z => h.IsStrIter it (strIterType z) z tk i
def ZS.off (c : Addr) : ZS → Prop
  | .l a => a ≠ c
  | .t a => a ≠ c
  | .s _ => True
section
variable {X : Cx} {pins : List (Addr × Obj)} {σ : L2.St} {H : Hp} {s : Shared} {E : Value → Shared → Prop}
theorem ZS.inj {S : ZS} {xs ys : List V} (I : Inv X pins σ H s) (h : S.items X.K H xs) (k : S.items X.K H ys) : xs = ys := by
  cases S with
  | l a => exact I.list_inj h k
  | t a => exact I.tuple_inj h k
  | s z => exact (show xs = _ from h).trans (show ys = _ from k).symm
end
structure ZApart (S1 S2 : ZS) (z TI TO i1 i2 : Addr) : Prop where
  TIz : TI ≠ z
  TOz : TO ≠ z
  TITO : TI ≠ TO
  TIi1 : TI ≠ i1
  TIi2 : TI ≠ i2
  zi1 : z ≠ i1
  zi2 : z ≠ i2
  TO1 : TO ≠ i1
  TO2 : TO ≠ i2
  i12 : i1 ≠ i2
  o1 : ∀ c ∈ [z, TO, i1, i2], S1.off c
  o2 : ∀ c ∈ [z, TO, i1, i2], S2.off c
/-! zip(e, e2): what begins -/
def ZS.of (K : Fg) (H : Hp) (v : V) : ZS → Prop
  | .l a => v = .ref a ∧ ∃ xs, SqL K H a xs
  | .t a => v = .ref a ∧ ∃ xs, SqT K H a xs
  | .s z => v = .str z
end
end CV
namespace CV
noncomputable section
open PySem L2
/-! ### zip: its meaning -/
def zipD (a b : List D) : List D := (a.zip b).map fun p => .tup [p.1, p.2]
def fiZip (a b : FP) : FA := fun env => (a env).bind fun d => (b env).bind fun e => (O.of (itemsOf d)).bind fun xs => (O.of (itemsOf e)).bind fun ys => .ok (zipD xs ys)
theorem fiZip_e (a b : FP) (env : Env) : fiZip a b env = (a env).bind fun d => (b env).bind fun e => (O.of (itemsOf d)).bind fun xs => (O.of (itemsOf e)).bind fun ys => .ok (zipD xs ys) := rfl
section
variable {c : Cn} {W : WX} {te ta tb : TE} {fe fa fb : FP}
end
end
end CV
namespace CV
noncomputable section
open PySem L2
/-! ### a comprehension over a name whose list is open -/
def fLcO (j : Nat) (fg : FG) (ft : FT) (fe : FP) (vs : List Nat) : FP := fun env => match env[j]? with
  | some (.own (.lst true ds)) => if clos ds = true then lcF fg ft fe (wipeE (env.set j .no) vs) ds [] else .bad
  | _ => .bad
theorem fLcO_e (j : Nat) (fg : FG) (ft : FT) (fe : FP) (vs : List Nat) (env : Env) : fLcO j fg ft fe vs env = (match env[j]? with
  | some (.own (.lst true ds)) => if clos ds = true then lcF fg ft fe (wipeE (env.set j .no) vs) ds [] else .bad
  | _ => .bad) := rfl
section
variable {c : Cn} {W : WX} {te : TE} {fe : FP} {tt : TT} {ft : FT}
end
end
end CV
namespace CV
noncomputable section
open PySem L2
/-! ### extend, and ranges from a number on, in steps that a walk takes -/
def extR (env : Env) (i : Nat) (ds es : List D) : R := @ite _ (ds.length + es.length ≤ 16777216) (Classical.propDecidable _) (.nx (env.set i (.own (.lst true (ds ++ es))))) .bad
theorem fExtend_e' (i : Nat) (a : FP) (env : Env) : fExtend i a env = (match env[i]? with
  | some (.own (.lst true ds)) => (a env).st env fun e => match e with
    | .lst _ es => extR env i ds es
    | _ => .bad
  | _ => .bad) := rfl
def rng2O : D → D → O (List D) := fun x y => match x, y with
  | .int m, .int n => @ite _ (-4611686018427387904 ≤ m ∧ m < 4611686018427387904 ∧ -4611686018427387904 ≤ n ∧ n < 4611686018427387904) (Classical.propDecidable _) (.ok ((List.range (n - m).toNat).map fun (i : Nat) => D.int (m + (i : Int)))) .bad
  | _, _ => .bad
theorem fiRng2_e (a b : FP) (env : Env) : fiRng2 a b env = (a env).bind fun x => (b env).bind fun y => rng2O x y := by
  unfold fiRng2
  cases a env with
  | ok x =>
    cases b env with
    | ok y =>
      show _ = rng2O x y
      unfold rng2O
      rfl
    | _ => rfl
  | _ => rfl
end
end CV
namespace CV
noncomputable section
open PySem L2 PySem.Spec
/-! ### text.count(sign) -/
section
variable {c : Cn}
end
end
end CV
namespace CV
noncomputable section
open PySem L2
/-! ### a, b = x, y: two names at once -/
def fPar (i j : Nat) (fa : FA) : FS := fun env => (fa env).st env fun ds => match ds with
  | [d1, d2] => .nx ((env.set i (.own d1)).set j (.own d2))
  | _ => .bad
theorem fPar_e (i j : Nat) (fa : FA) (env : Env) : fPar i j fa env = (fa env).st env fun ds => match ds with
  | [d1, d2] => .nx ((env.set i (.own d1)).set j (.own d2))
  | _ => .bad := rfl
section
variable {c : Cn} {W : WX} {ta : TA} {fa : FA}
end
end
end CV
namespace CV
noncomputable section
open PySem L2
open PyProof.Rows (envOfC)
/-! ### defs with defaults -/
structure FunAtD (K : Fg) (mg : Str → Option Value) (x : Str) (st : Stmt) (dvs : List V) : Prop where
  ex : ∃ (f : Addr) (fd : FuncData), mg x = some (.ref f) ∧ PySem.W.keepIn K (.ref f) = true ∧ FunD K x x (defArgs st) (defBody st) (defScope st) dvs [] f fd
structure DefR (P : Program) (w : World) (K : Fg) (mg : Str → Option Value) (base : Heap) (x : Str) (st : Stmt) (dvs : List V) (ps : List Str) (k : Nat) (sp : Sp) : Prop where
  ex : ∃ (f : Addr) (fd : FuncData), mg x = some (.ref f) ∧ PySem.W.keepIn K (.ref f) = true ∧ FunD K x x (defArgs st) (defBody st) (defScope st) dvs [] f fd ∧ FnOk P w K mg base (L2.CX P w) k f fd ps sp
section
variable {P : Program} {w : World} {K : Fg} {mg : Str → Option Value} {base : Heap}
end
theorem DefR.ok {P : Program} {w : World} {K : Fg} {mg : Str → Option Value} {base : Heap} {x : Str} {st : Stmt} {dvs : List V} {ps : List Str} {k : Nat} {sp : Sp} (h : DefR P w K mg base x st dvs ps k sp) (hb : ∀ f fd, FunD K x x (defArgs st) (defBody st) (defScope st) dvs [] f fd → ∃ ds, Vals [] ds ∧ Binds K fd ps ds) : DefOk P w K mg base (L2.CX P w) x ps k sp := by
  obtain ⟨f, fd, hm, hk, hF, F⟩ := h.ex
  obtain ⟨ds, hd, hbd⟩ := hb f fd hF
  cases hd
  exact ⟨f, fd, hm, hk, hbd, F⟩
def fAdd (dd : List D) (fa : FA) : FA := fun env => (fa env).bind fun ds => .ok (ds ++ dd)
theorem fAdd_e (dd : List D) (fa : FA) (env : Env) : fAdd dd fa env = (fa env).bind fun ds => .ok (ds ++ dd) := rfl
section
variable {X : Cx} {k : Nat} {ps : List Str} {sp : Sp} {W : WX} {x : Str} {st : Stmt} {dvs dv : List V} {p pos : Pos} {e : Expr} {es : List Expr} {t : TA}
end
section
variable {c : Cn} {W : WX} {ta : TA} {fa : FA}
end
end
end CV
namespace CV
noncomputable section
open PySem L2
open PyProof.Rows (envOfC)
/-! ### expressions whose making changes what slots hold, nested -/
inductive OEL where
  | bad | ok (ds : List D) (e : Env) | exc (x : Exc) (e : Env)
abbrev FXA := Env → OEL
def OE.bind : OE → (D → Env → OE) → OE
  | .bad, _ => .bad
  | .exc x e, _ => .exc x e
  | .ok d e, k => k d e
def OE.bindL : OE → (D → Env → OEL) → OEL
  | .bad, _ => .bad
  | .exc x e, _ => .exc x e
  | .ok d e, k => k d e
def OEL.bind : OEL → (List D → Env → OE) → OE
  | .bad, _ => .bad
  | .exc x e, _ => .exc x e
  | .ok d e, k => k d e
def OEL.bindL : OEL → (List D → Env → OEL) → OEL
  | .bad, _ => .bad
  | .exc x e, _ => .exc x e
  | .ok d e, k => k d e
def OE.of (o : Option D) (e : Env) : OE := match o with
  | some d => .ok d e
  | none => .bad
theorem OE.bind_ok (d : D) (e : Env) (k : D → Env → OE) : (OE.ok d e).bind k = k d e := rfl
theorem OE.bind_exc (x : Exc) (e : Env) (k : D → Env → OE) : (OE.exc x e).bind k = .exc x e := rfl
theorem OE.bindL_ok (d : D) (e : Env) (k : D → Env → OEL) : (OE.ok d e).bindL k = k d e := rfl
theorem OE.bindL_exc (x : Exc) (e : Env) (k : D → Env → OEL) : (OE.exc x e).bindL k = .exc x e := rfl
theorem OEL.bind_ok (d : List D) (e : Env) (k : List D → Env → OE) : (OEL.ok d e).bind k = k d e := rfl
theorem OEL.bind_exc (x : Exc) (e : Env) (k : List D → Env → OE) : (OEL.exc x e).bind k = .exc x e := rfl
theorem OEL.bindL_ok (d : List D) (e : Env) (k : List D → Env → OEL) : (OEL.ok d e).bindL k = k d e := rfl
theorem OEL.bindL_exc (x : Exc) (e : Env) (k : List D → Env → OEL) : (OEL.exc x e).bindL k = .exc x e := rfl
theorem OE.of_some (d : D) (e : Env) : OE.of (some d) e = .ok d e := rfl
def fxP (f : FP) : FX := fun env => match f env with
  | .ok d => .ok d env
  | .exc x => .exc x env
  | .bad => .bad
def fxOp (g : D → D → Option D) (a b : FX) : FX := fun env => (a env).bind fun d1 e1 => (b e1).bind fun d2 e2 => .of (g d1 d2) e2
def faxNil : FXA := fun env => .ok [] env
def faxCons (a : FX) (r : FXA) : FXA := fun env => (a env).bindL fun d e => (r e).bindL fun ds e2 => .ok (d :: ds) e2
def fxApp (g : List D → Option D) (a : FXA) : FX := fun env => (a env).bind fun ds e => .of (g ds) e
def fxFz (a : FX) : FX := fun env => (a env).bind fun d e => .ok (frz d) e
theorem fxOp_e (g : D → D → Option D) (a b : FX) (env : Env) : fxOp g a b env = (a env).bind fun d1 e1 => (b e1).bind fun d2 e2 => .of (g d1 d2) e2 := rfl
theorem faxNil_e (env : Env) : faxNil env = .ok [] env := rfl
theorem faxCons_e (a : FX) (r : FXA) (env : Env) : faxCons a r env = (a env).bindL fun d e => (r e).bindL fun ds e2 => .ok (d :: ds) e2 := rfl
theorem fxApp_e (g : List D → Option D) (a : FXA) (env : Env) : fxApp g a env = (a env).bind fun ds e => .of (g ds) e := rfl
theorem fxFz_e (a : FX) (env : Env) : fxFz a env = (a env).bind fun d e => .ok (frz d) e := rfl
section
variable (c : Cn) (W : WX)
end
section
variable {c : Cn} {W : WX} {te ta tb : TE} {fe : FP} {fa fb fm : FX} {tas : TA} {fas : FXA} {C H : Hp} {σ : L2.St} {env : Env} {T : List Ent}
theorem Wld.views {c : Cn} {C H : Hp} : ∀ {vs : List V} {ds : List D} {L : List Ent}, vs.length = ds.length → Wld c C H (vs.zip ds ++ L) → ∃ F, RpFs c.W C H vs ds F
  | [], [], L, _, _ => ⟨[], .nil⟩
  | [], d :: ds, L, h, _ => by simp at h
  | v :: vs, [], L, h, _ => by simp at h
  | v :: vs, d :: ds, L, h, w => by
    have w' : Wld c C H ((v, d) :: (vs.zip ds ++ L)) := w
    obtain ⟨F1, r1⟩ := w'.view (e := (v, d)) (by simp)
    obtain ⟨F2, r2⟩ := Wld.views (vs := vs) (ds := ds) (by simpa using h) w'.tail
    exact ⟨F1 ++ F2, .cons r1 r2⟩
/-! xs.append(e) -/
def isOwnL (env : Env) (i : Nat) : Bool := match env[i]? with
  | some (.own (.lst true _)) => true
  | _ => false
def appM (i : Nat) (d : D) (e : Env) : R := match e[i]? with
  | some (.own (.lst true ds)) => @ite _ (ds.length < 16777216) (Classical.propDecidable _) (.nx (e.set i (.own (.lst true (ds ++ [d]))))) .bad
  | _ => .bad
def fAppendM (i : Nat) (m : FX) : FS := fun env => if isOwnL env i = true then (match m env with
  | .ok d e => appM i d e
  | .exc x e => .exc x e
  | .bad => .bad) else .bad
/-! a call with things made for it alone at the places that it changes -/
def fCallT (ks : List Bool) (F : List D → OM) (a : FXA) : FX := fun env => (a env).bind fun ds e => if ds.length = ks.length ∧ clos (pick (ks.map (!·)) ds) = true then match F ds with
  | .bad => .bad
  | .ok d _ => .ok d e
  | .exc x _ => .exc x e
  else .bad
end
/-! the end of a recursion of defs that change parameters -/
section
variable {P : Program} {w : World} {K : Fg} {mg : Str → Option Value} {base : Heap}
end
end
end CV
namespace CV
noncomputable section
open PySem L2
/-! ### a comprehension whose elements change what slots hold -/
def lcMF (fg : FG) (ft : FT) (fe : FX) (vs : List Nat) : Env → List D → List D → OE
  | env, [], acc => .ok (.lst true acc) env
  | env, d :: ds, acc => match fg d env with
    | none => .bad
    | some e => match ft e with
      | .ok true => (match fe e with
        | .ok y e2 => @ite _ (acc.length < 16777216) (Classical.propDecidable _) (lcMF fg ft fe vs (wipeE e2 vs) ds (acc ++ [y])) .bad
        | _ => .bad)
      | .ok false => lcMF fg ft fe vs (wipeE e vs) ds acc
      | _ => .bad
def fLcM (fi : FA) (fg : FG) (ft : FT) (fe : FX) (vs : List Nat) : FX := fun env => match fi env with
  | .ok ds => lcMF fg ft fe vs (wipeE env vs) ds []
  | .exc x => .exc x env
  | .bad => .bad
section
variable {c : Cn} {W : WX} {te ta tb : TE} {fe : FX} {tt tu : TT} {ft fu : FT}
end
end
end CV
namespace CV
noncomputable section
open PySem L2
/-! ### equation lemmas of nested changes -/
def O.fx (o : O D) (e : Env) : OE := match o with
  | .ok d => .ok d e
  | .exc x => .exc x e
  | .bad => .bad
theorem Ofx_ok (d : D) (e : Env) : (O.ok d).fx e = .ok d e := rfl
theorem Ofx_exc (x : Exc) (e : Env) : (O.exc x : O D).fx e = .exc x e := rfl
theorem fxP_e' (f : FP) (env : Env) : fxP f env = (f env).fx env := rfl
theorem OEof_some (d : D) (e : Env) : OE.of (some d) e = .ok d e := rfl
theorem isOwnL_e (env : Env) (i : Nat) : isOwnL env i = (match env[i]? with
  | some (.own (.lst true _)) => true
  | _ => false) := rfl
theorem appM_e (i : Nat) (d : D) (e : Env) : appM i d e = (match e[i]? with
  | some (.own (.lst true ds)) => appR e i ds d
  | _ => .bad) := rfl
def OE.apM (o : OE) (i : Nat) : R := match o with
  | .ok d e => appM i d e
  | .exc x e => .exc x e
  | .bad => .bad
theorem apM_ok (d : D) (e : Env) (i : Nat) : (OE.ok d e).apM i = appM i d e := rfl
theorem apM_exc (x : Exc) (e : Env) (i : Nat) : (OE.exc x e).apM i = .exc x e := rfl
theorem fAppendM_e' (i : Nat) (m : FX) (env : Env) : fAppendM i m env = if isOwnL env i = true then (m env).apM i else .bad := rfl
def OM.tp (o : OM) (e : Env) : OE := match o with
  | .bad => .bad
  | .ok d _ => .ok d e
  | .exc x _ => .exc x e
theorem tp_ok (d : D) (io : List D) (e : Env) : (OM.ok d io).tp e = .ok d e := rfl
theorem tp_exc (x : Exc) (io : List D) (e : Env) : (OM.exc x io).tp e = .exc x e := rfl
theorem fCallT_e' (ks : List Bool) (F : List D → OM) (a : FXA) (env : Env) : fCallT ks F a env = (a env).bind fun ds e => if ds.length = ks.length ∧ clos (pick (ks.map (!·)) ds) = true then (F ds).tp e else .bad := rfl
theorem pick_t {α : Type} (ks : List Bool) (a : α) (as : List α) : pick (true :: ks) (a :: as) = a :: pick ks as := rfl
theorem pick_f {α : Type} (ks : List Bool) (a : α) (as : List α) : pick (false :: ks) (a :: as) = pick ks as := rfl
theorem pick_n {α : Type} (as : List α) : pick [] as = [] := by cases as <;> rfl
def O.lcx (o : O (List D)) (env : Env) (f : List D → OE) : OE := match o with
  | .ok ds => f ds
  | .exc x => .exc x env
  | .bad => .bad
theorem lcx_ok (ds : List D) (env : Env) (f : List D → OE) : (O.ok ds).lcx env f = f ds := rfl
theorem fLcM_e' (fi : FA) (fg : FG) (ft : FT) (fe : FX) (vs : List Nat) (env : Env) : fLcM fi fg ft fe vs env = (fi env).lcx env fun ds => lcMF fg ft fe vs (wipeE env vs) ds [] := rfl
end
end CV
/-! ### set(xs), xs a list; its length -/
namespace CVS
open PySem PySem.Spec PyProof.Rows
section
variable {prog : Program} {w : World} {A : Around} {E : Value → Shared → Prop} {s : Shared} {l : Addr} {its : Array Value} {Good : Heap → Addr → Prop} {Q : Value → Shared → Prop}
end
/-! texts -/
/-- how many unlike ones there are among the first i -/
def dN (xs : List Str) : Nat → Nat
  | 0 => 0
  | i + 1 => dN xs i + if (xs.take i).any (· == xs.getD i Str.empty) = true then 0 else 1
end CVS
namespace CV
noncomputable section
open PySem L2 PySem.Spec PyProof.Rows CVS
end
end CV
namespace CV
noncomputable section
open PySem L2 CVS
/-! ### len(set(texts)) as data -/
def gLenSetS : D → Option D
  | .lst _ ds => (strsOf ds).bind fun ls => if ls.length < 4000 then some (.int ((dN (ls.map S) ls.length : Nat) : Int)) else none
  | _ => none
def fLenSet (fa : FP) : FP := fun env => (fa env).bind fun d => .of (gLenSetS d)
theorem fLenSet_e (fa : FP) (env : Env) : fLenSet fa env = (fa env).bind fun d => .of (gLenSetS d) := rfl
section
variable {c : Cn} {W : WX} {ta : TE} {fa : FP}
end
end
end CV
namespace CV
noncomputable section
open PySem L2
/-! ### a for over a name whose dict is open: the dict is locked while the loop runs, its values may be read in it -/
def flatD : D → Bool
  | .non => true
  | .bl _ => true
  | .int _ => true
  | .str _ => true
  | _ => false
theorem flatD_clo {d : D} (h : flatD d = true) : clo d = true := by cases d <;> first | rfl | cases h
theorem flat_any {W : Wp} {C H C' H' : Hp} : ∀ {vs : List V} {ds : List D} {F : List Addr}, RpFs W C H vs ds F → ds.all flatD = true → RpFs W C' H' vs ds []
  | _, _, _, .nil, _ => .nil
  | _, _, _, .cons (d := d) r t, h => by
    rw [List.all_cons, Bool.and_eq_true] at h
    have t' : RpFs W C' H' _ _ [] := flat_any t h.2
    refine RpFs.cons (F := []) (G := []) ?_ t'
    cases r <;> first | (cases h.1; done) | constructor
theorem flat_clos {ds : List D} (h : ds.all flatD = true) : clos ds = true := clos_all.mpr fun d hd => flatD_clo (List.all_eq_true.mp h d hd)
structure PinD (c : Cn) (j : Nat) (ks : List KD) (ds : List D) : Prop where
  ex : ∃ (p : Addr) (o : Obj) (kvs : List (Key × V)), c.args j = .ref p ∧ c.H0 p = some (.frz o (.dK kvs)) ∧ p ∉ c.M ∧ ks = kvs.map (fun q => KD.k q.1) ∧ ds.all flatD = true ∧ ∀ (C H : Hp), RpFs c.W C H (kvs.map (·.2)) ds []
def unpinD (j : Nat) (x : Sl) : R → R
  | .nx e => match e[j]? with
    | some .pin => .nx (e.set j x)
    | _ => .bad
  | _ => .bad
def fForD (j : Nat) (fg : FG) (fb : List KD → List D → FS) : FS := fun env => match mutE env j with
  | some (.dct true 0 ks ds) => if ds.all flatD = true then unpinD j (kindE env j (.dct true 0 ks ds)) (loopF fg (fb ks ds) (ks.map keyDD) (env.set j .pin)) else .bad
  | _ => .bad
theorem fForD_e (j : Nat) (fg : FG) (fb : List KD → List D → FS) (env : Env) : fForD j fg fb env = (match mutE env j with
  | some (.dct true 0 ks ds) => if ds.all flatD = true then unpinD j (kindE env j (.dct true 0 ks ds)) (loopF fg (fb ks ds) (ks.map keyDD) (env.set j .pin)) else .bad
  | _ => .bad) := rfl
/-- the value of a key of the locked dict -/
def fPinIx (j : Nat) (ks : List KD) (ds : List D) (fk : FP) : FP := fun env => match env[j]? with
  | some .pin => (fk env).bind fun k => .of (gIx2 (.dct true 0 ks ds) k)
  | _ => .bad
theorem fPinIx_e (j : Nat) (ks : List KD) (ds : List D) (fk : FP) (env : Env) : fPinIx j ks ds fk env = (match env[j]? with
  | some .pin => (fk env).bind fun k => .of (gIx2 (.dct true 0 ks ds) k)
  | _ => .bad) := rfl
abbrev Cn.alt (c : Cn) (H0 C0 : Hp) (M : List Addr) (a : Nat → V) : Cn := ⟨c.W, H0, C0, M, a⟩
mutual
theorem RpF.nofrz {W : Wp} {C H : Hp} : ∀ {v : V} {d : D} {F : List Addr}, RpF W C H v d F → ∀ a ∈ F, ∀ o u, H a ≠ some (.frz o u)
  | _, _, _, .non, a, h => by simp at h
  | _, _, _, .bl b, a, h => by simp at h
  | _, _, _, .int i, a, h => by simp at h
  | _, _, _, .str l, a, h => by simp at h
  | _, _, _, .tup s r, a, h => RpFs.nofrz r a h
  | _, _, _, .lst s r, a, h => by simp at h
  | _, _, _, .ro s r, a, h => by simp at h
  | _, _, _, .own s r, a, h => by
    rcases List.mem_cons.mp h with q | q
    · rw [q, s]; simp
    · exact RpFs.nofrz r a q
  | _, _, _, .dic s r, a, h => by simp at h
  | _, _, _, .dio s r, a, h => by
    rcases List.mem_cons.mp h with q | q
    · rw [q]
      rcases s with ⟨et, kvs, z, b⟩ | ⟨et, kvs, z, b⟩ <;> rw [z] <;> simp
    · exact RpFs.nofrz r a q
  | _, _, _, .mic s q r, a, h => by simp at h
  | _, _, _, .mio s q r, a, h => by
    rcases List.mem_cons.mp h with z | z
    · rw [z, s]; simp [dxO]
    · exact RpFs.nofrz r a z
  | _, _, _, .inc n s t r, a, h => by simp at h
  | _, _, _, .ino n s t r, a, h => by
    rcases List.mem_cons.mp h with q | q
    · rw [q, s]; simp
    · rcases List.mem_cons.mp q with q | q
      · rw [q, t]; simp
      · exact RpFs.nofrz r a q
  | _, _, _, .xc0 n s, a, h => by simp at h
  | _, _, _, .xc1 n s t r, a, h => by simp at h
theorem RpFs.nofrz {W : Wp} {C H : Hp} : ∀ {vs : List V} {ds : List D} {F : List Addr}, RpFs W C H vs ds F → ∀ a ∈ F, ∀ o u, H a ≠ some (.frz o u)
  | _, _, _, .nil, a, h => by simp at h
  | _, _, _, .cons r t, a, h => by
    rcases List.mem_append.mp h with q | q
    · exact RpF.nofrz r a q
    · exact RpFs.nofrz t a q
end
section
variable {c : Cn} {W : WX} {te : TE} {fk : FP} {C H : Hp} {L : List Ent}
theorem rp_pinIx {j : Nat} {ks : List KD} {ds : List D} (hp : PinD c j ks ds) (hk : RV c W te fk) : RP c W (tOp (xIx c.W) (tVar j) te) (fPinIx j ks ds fk) := fun σ H C env T s Q q x nb => by
  unfold fPinIx at q x nb
  cases hj : env[j]? with
  | none => exact absurd (by rw [hj]) nb
  | some z =>
    cases z with
    | pin =>
      rw [hj] at q x nb
      dsimp only at q x nb
      obtain ⟨p, o, kvs, ea, e0, hM, rfl, hfl, hf⟩ := hp.ex
      have hv := s.e.pin j hj
      have hH : H p = some (.frz o (.dK kvs)) := s.w.same p _ hM e0
      refine ⟨_, hv, hk σ H C env T s _ (fun d v H1 C1 F e1 s1 k1 t1 r1 => ?_) (fun y cl dx H' C' e1 => x y cl dx H' C' (by rw [e1]; rfl)) (fun e1 => nb (by rw [e1]; rfl))⟩
      rw [e1, O.bind_ok] at q nb
      cases eg : gIx2 (.dct true 0 (kvs.map fun q => KD.k q.1) ds) d with
      | none => exact absurd (by rw [eg]; rfl) nb
      | some d' =>
        obtain ⟨k, h1, h2⟩ := Option.bind_eq_some_iff.mp (show (keyOf d).bind _ = some d' from eg)
        by_cases ht : kindK k = 0
        · rw [if_pos ht] at h2
          rcases key_v r1 s1.w.sub h1 with ⟨y, rfl, ex⟩ | ⟨ys, b, rfl, _, _⟩
          · subst ex
            rcases val_get kInj y (hf C1 H1) with ⟨h3, h4⟩ | ⟨u, d2, G, h3, h4, h5, h6⟩
            · rw [h4] at h2; cases h2
            · rw [h4] at h2; cases h2
              exact .inr (.inl ⟨p, u, ea, .inl ⟨kvs, y, .inr ⟨o, t1 _ _ hH⟩, rfl, h3.symm⟩, q d' u H1 C1 (by rw [eg]; rfl) (s1.push (h5.c (flatD_clo (List.all_eq_true.mp hfl _ h6)) (Same.refl _))) k1 t1⟩)
          · cases ht
        · rw [if_neg ht] at h2; cases h2
    | _ => exact absurd (by rw [hj]) nb
/-- a dict that stands open is locked -/
theorem Wld.lockD {p : Addr} {ks : List KD} {ds : List D} (k : Wld c C H ((.ref p, .dct true 0 ks ds) :: L)) (hfl : ds.all flatD = true) :
    ∃ kvs : List (Key × V), H p = some (.dK kvs) ∧ ks = kvs.map (fun q => KD.k q.1) ∧ (∀ (C H : Hp), RpFs c.W C H (kvs.map (·.2)) ds []) ∧ (p ∈ c.M ∨ c.H0 p = none) ∧ ∀ (o : Obj) (a : Nat → V), 
      (a = fun i => a i) ∧ Wld (c.alt (upd c.H0 p (.frz o (.dK kvs))) c.C0 (c.M.filter fun x => decide (x ≠ p)) a) C (upd H p (.frz o (.dK kvs))) L ∧
      ∀ (C' H' : Hp) (L' : List Ent), Wld (c.alt (upd c.H0 p (.frz o (.dK kvs))) c.C0 (c.M.filter fun x => decide (x ≠ p)) a) C' H' L' → H' p = some (.frz o (.dK kvs)) ∧ Wld c C' (upd H' p (.dK kvs)) ((.ref p, .dct true 0 ks ds) :: L') := by
  obtain ⟨F, h1, h2, h3⟩ := k.own
  unfold RpE at h1
  cases h1 with
  | @cons _ _ _ _ F0 F1 a1 a2 =>
    cases a1 with
    | @dio _ _ _ xs _ G hd ra =>
      have ra' := fun (C H : Hp) => flat_any (C' := C) (H' := H) ra hfl
      have hG : G = [] := ra.cl0 (flat_clos hfl)
      subst hG
      rcases hd with ⟨et, kvs, e1, e2, e3⟩ | ⟨et, kvs, e1, e2, e3⟩
      · subst e3
        have pf := h3 p (by simp)
        have hp0 : c.C0 p = none := by
          cases z : c.C0 p with
          | none => rfl
          | some u => have := k.ext p u z; rw [pf.1] at this; cases this
        have nd := List.nodup_cons.mp (show (p :: ([] ++ F1)).Nodup from h2)
        rw [List.nil_append] at nd
        have np : ∀ a ∈ F1, a ≠ p := fun a ha z => nd.1 (z ▸ ha)
        refine ⟨kvs, e1, e2, ra', pf.2, fun o a => ⟨rfl, ⟨fun b u hm e => ?_, fun b u e => ?_, k.ext, fun b u e n => ?_, fun b hb => ?_, F1, RpFs.mono (Same.refl _) (fun b hb => upd_ne (np b hb)) a2, nd.2, fun b hb => ⟨(h3 b (by simp [hb])).1, ?_⟩⟩, fun C' H' L' k' => ?_⟩⟩
        · by_cases z : b = p
          · subst z
            have e' : upd c.H0 b (.frz o (.dK kvs)) b = some u := e
            rw [upd_same] at e' ⊢; exact e'
          · have e' : upd c.H0 p (.frz o (.dK kvs)) b = some u := e
            rw [upd_ne z] at e' ⊢
            exact k.same b u (fun q => hm (List.mem_filter.mpr ⟨q, by simpa using z⟩)) e'
        · have z : b ≠ p := fun z => by subst z; rw [pf.1] at e; cases e
          rw [upd_ne z]; exact k.sub b u e
        · have z : b ≠ p := fun z => by subst z; rw [pf.1] at e; cases e
          show upd c.H0 p (.frz o (.dK kvs)) b = none ∨ b ∈ (c.M.filter fun x => decide (x ≠ p)) ∨ ∃ ys, upd c.H0 p (.frz o (.dK kvs)) b = some (.tup ys)
          rw [upd_ne z]
          rcases k.new b u e n with q | q | q
          · exact .inl q
          · exact .inr (.inl (List.mem_filter.mpr ⟨q, by simpa using z⟩))
          · exact .inr (.inr q)
        · by_cases z : b = p
          · rw [z, upd_same]; simp
          · have hb' : upd c.H0 p (.frz o (.dK kvs)) b ≠ none := hb
            rw [upd_ne z] at hb' ⊢; exact k.old b hb'
        · show b ∈ (c.M.filter fun x => decide (x ≠ p)) ∨ upd c.H0 p (.frz o (.dK kvs)) b = none
          rw [upd_ne (np b hb)]
          rcases (h3 b (by simp [hb])).2 with q | q
          · exact .inl (List.mem_filter.mpr ⟨q, by simpa using np b hb⟩)
          · exact .inr q
        · have pM : p ∉ (c.M.filter fun x => decide (x ≠ p)) := fun q => by have := (List.mem_filter.mp q).2; simp at this
          have hHp : H' p = some (.frz o (.dK kvs)) := k'.same p _ pM upd_same
          have hCp : C' p = none := by
            cases z : C' p with
            | none => rfl
            | some u =>
              rcases k'.new p u z hp0 with q | q | ⟨ys, q⟩
              · have q' : upd c.H0 p (.frz o (.dK kvs)) p = none := q
                rw [upd_same] at q'; cases q'
              · exact absurd q pM
              · have q' : upd c.H0 p (.frz o (.dK kvs)) p = some (.tup ys) := q
                rw [upd_same] at q'; cases q'
          refine ⟨hHp, ?_⟩
          obtain ⟨F', g1, g2, g3⟩ := k'.own
          have npF : p ∉ F' := fun q => by
            rcases (g3 p q).2 with z | z
            · exact pM z
            · have z' : upd c.H0 p (.frz o (.dK kvs)) p = none := z
              rw [upd_same] at z'; cases z'
          have np' : ∀ b ∈ F', b ≠ p := fun b hb z => npF (z ▸ hb)
          refine ⟨fun b u hm e => ?_, fun b u e => ?_, k'.ext, fun b u e n => ?_, fun b hb => ?_, p :: F', RpFs.cons (F := [p]) (.dio (F := []) (.inl ⟨rfl, kvs, upd_same, e2, rfl⟩) (ra' _ _)) (RpFs.mono (Same.refl _) (fun b hb => upd_ne (np' b hb)) g1), List.nodup_cons.mpr ⟨npF, g2⟩, fun b hb => ?_⟩
          · have z : b ≠ p := fun z => by
              subst z
              rcases pf.2 with q | q
              · exact hm q
              · rw [q] at e; cases e
            rw [upd_ne z]
            exact k'.same b u (fun q => hm (List.mem_filter.mp q).1) (show upd c.H0 p (.frz o (.dK kvs)) b = some u by rw [upd_ne z]; exact e)
          · have z : b ≠ p := fun z => by subst z; rw [hCp] at e; cases e
            rw [upd_ne z]; exact k'.sub b u e
          · have z : b ≠ p := fun z => by subst z; rw [hCp] at e; cases e
            rcases k'.new b u e n with q | q | ⟨ys, q⟩
            · have q' : upd c.H0 p (.frz o (.dK kvs)) b = none := q
              rw [upd_ne z] at q'; exact .inl q'
            · exact .inr (.inl (List.mem_filter.mp q).1)
            · have q' : upd c.H0 p (.frz o (.dK kvs)) b = some (.tup ys) := q
              rw [upd_ne z] at q'; exact .inr (.inr ⟨ys, q'⟩)
          · by_cases z : b = p
            · rw [z, upd_same]; simp
            · rw [upd_ne z]
              exact k'.old b (show upd c.H0 p (.frz o (.dK kvs)) b ≠ none by rw [upd_ne z]; exact hb)
          · rcases List.mem_cons.mp hb with z | z
            · subst z; exact ⟨hCp, pf.2⟩
            · refine ⟨(g3 b z).1, ?_⟩
              rcases (g3 b z).2 with q | q
              · exact .inl (List.mem_filter.mp q).1
              · have q' : upd c.H0 p (.frz o (.dK kvs)) b = none := q
                rw [upd_ne (np' b z)] at q'; exact .inr q'
      · cases et
theorem EnvOk.lockD {σ : L2.St} {env : Env} {j : Nat} {p : Addr} {u : HO} (s : EnvOk c σ (env.set j .no)) (hv : σ[j]? = some (some (.ref p))) (hp : p ∈ c.M ∨ c.H0 p = none) :
    EnvOk (c.alt (upd c.H0 p u) c.C0 (c.M.filter fun x => decide (x ≠ p)) fun i => if i = j then .ref p else c.args i) σ (env.set j .pin) := by
  have ne : ∀ i x, i ≠ j → (env.set j .pin)[i]? = some x → (env.set j .no)[i]? = some x := fun i x hi e => by
    rw [List.getElem?_set_ne (Ne.symm hi)] at e ⊢; exact e
  have at_j : ∀ x, (env.set j .pin)[j]? = some x → x = .pin := fun x e => by
    by_cases hl : j < env.length
    · rw [List.getElem?_set_self hl] at e; exact (Option.some.inj e).symm
    · rw [List.getElem?_eq_none (by rw [List.length_set]; omega)] at e; cases e
  refine ⟨by have := s.len; rw [List.length_set] at this ⊢; exact this, fun i d e => ?_, fun i d e => ?_, fun i e => ?_, fun i d e => ?_⟩
  · by_cases hi : i = j
    · subst hi; cases at_j _ e
    · exact s.own i d (ne i _ hi e)
  · by_cases hi : i = j
    · subst hi; cases at_j _ e
    · obtain ⟨v, F, h1, h2, h3⟩ := s.bor i d (ne i _ hi e)
      have npF : ∀ a ∈ F, a ≠ p := fun a ha z => by
        subst z
        rcases hp with q | q
        · exact h3 a ha q
        · exact h2.there a ha q
      exact ⟨v, F, h1, h2.mono (Same.refl _) (fun a ha => upd_ne (npF a ha)), fun a ha q => h3 a ha (List.mem_filter.mp q).1⟩
  · by_cases hi : i = j
    · subst hi
      show σ[i]? = some (some (if i = i then .ref p else c.args i))
      rw [if_pos rfl]; exact hv
    · show σ[i]? = some (some (if i = j then .ref p else c.args i))
      rw [if_neg hi]
      exact s.pin i (ne i _ hi e)
  · by_cases hi : i = j
    · subst hi; cases at_j _ e
    · show σ[i]? = some (some (if i = j then .ref p else c.args i))
      rw [if_neg hi]
      exact s.io i d (ne i _ hi e)
theorem EnvOk.unlockD {σ : L2.St} {env : Env} {j : Nat} {p : Addr} {o : Obj} {u : HO} (s : EnvOk (c.alt (upd c.H0 p (.frz o u)) c.C0 (c.M.filter fun x => decide (x ≠ p)) fun i => if i = j then .ref p else c.args i) σ env) :
    EnvOk c σ (env.set j .no) := by
  have ne : ∀ (i : Nat) (x : Sl), (env.set j .no)[i]? = some x → x ≠ .no → i ≠ j ∧ env[i]? = some x := fun i x e hx => by
    by_cases hi : i = j
    · subst hi
      exfalso
      by_cases hl : i < env.length
      · rw [List.getElem?_set_self hl] at e; exact hx (Option.some.inj e).symm
      · rw [List.getElem?_eq_none (by rw [List.length_set]; omega)] at e; cases e
    · rw [List.getElem?_set_ne (Ne.symm hi)] at e; exact ⟨hi, e⟩
  refine ⟨by rw [List.length_set]; exact s.len, fun i d e => s.own i d (ne i _ e (by simp)).2, fun i d e => ?_, fun i e => ?_, fun i d e => ?_⟩
  · obtain ⟨v, F, h1, h2, h3⟩ := s.bor i d (ne i _ e (by simp)).2
    have h2' : RpF c.W c.C0 (upd c.H0 p (.frz o u)) v d F := h2
    have npF : ∀ a ∈ F, a ≠ p := fun a ha z => by subst z; exact h2'.nofrz a ha o u upd_same
    exact ⟨v, F, h1, h2'.mono (Same.refl _) (fun a ha => (upd_ne (npF a ha)).symm), fun a ha q => h3 a ha (List.mem_filter.mpr ⟨q, by simpa using npF a ha⟩)⟩
  · obtain ⟨h1, h2⟩ := ne i _ e (by simp)
    have q : σ[i]? = some (some (if i = j then .ref p else c.args i)) := s.pin i h2
    rwa [if_neg h1] at q
  · obtain ⟨h1, h2⟩ := ne i _ e (by simp)
    have q : σ[i]? = some (some (if i = j then .ref p else c.args i)) := s.io i d h2
    rwa [if_neg h1] at q
end
end
end CV
namespace CV
noncomputable section
open PySem L2
theorem keyD_r {W : Wp} {C H : Hp} (k : Key) : RpF W C H (kV k) (keyD k) [] := by
  cases k with
  | inl i => exact .int i
  | inr s =>
    have : RpF W C H (.str (S s.cps.toList)) (.str s.cps.toList) [] := .str _
    exact this
section
variable {c : Cn} {W : WX}
theorem rs_forD {j : Nat} {g : TG} {fg : FG} {tb : TS} {fb : List KD → List D → FS} (hg : ∀ H0 C0 M a, RG (c.alt H0 C0 M a) g fg) (hb : ∀ H0 C0 M a ks ds, PinD (c.alt H0 C0 M a) j ks ds → RS (c.alt H0 C0 M a) W tb (fb ks ds)) :
    RS c W (tLock (tFor (iKeys (tVar j)) g tb)) (fForD j fg fb) := fun σ H C env T dn s n r b t x nb => by
  have go : ∀ ks ds, mutE env j = some (.dct true 0 ks ds) → tLock (tFor (iKeys (tVar j)) g tb) dn σ H := fun ks ds hj => by
    have un : fForD j fg fb env = if ds.all flatD = true then unpinD j (kindE env j (.dct true 0 ks ds)) (loopF fg (fb ks ds) (ks.map keyDD) (env.set j .pin)) else .bad := by
      rw [fForD_e, hj]; try rfl
    rw [un] at n nb
    by_cases hfl : ds.all flatD = true
    · rw [if_pos hfl] at n nb
      obtain ⟨v, hv, s1, _⟩ := s.takeM hj
      have kd : ∀ (C' H' : Hp) (σ' : L2.St) (env' : Env) (T' : List Ent) (d' : D), σ'[j]? = some (some v) → Stt c C' σ' H' env' ((v, d') :: T') → Stt c C' σ' H' (env'.set j (kindE env j d')) T' := fun C' H' σ' env' T' d' hσ s' => by
        unfold kindE
        unfold mutE at hj
        cases he : env[j]? with
        | none => rw [he] at hj; cases hj
        | some z =>
          rw [he] at hj
          cases z with
          | own d0 => exact s'.giveOwn hσ
          | io d0 =>
            have hv2 := s.e.io j d0 he
            rw [hv] at hv2
            cases hv2
            exact s'.giveIo hσ
          | _ => cases hj
      obtain ⟨p, ev⟩ : ∃ p, v = .ref p := by
        obtain ⟨F, rr⟩ := s1.w.view (e := (v, .dct true 0 ks ds)) (by simp)
        have rr' : RpF c.W _ _ v (.dct true 0 ks ds) F := rr
        generalize et : (0 : Nat) = t0 at rr'
        cases rr' with
        | dio _ _ => exact ⟨_, rfl⟩
      subst ev
      obtain ⟨kvs, hH, hks, hf, hM, lock⟩ := s1.w.lockD hfl
      subst hks
      refine ⟨p, .dK kvs, hH, trivial, fun od => ?_⟩
      obtain ⟨_, w2, back⟩ := lock od fun i => if i = j then .ref p else c.args i
      generalize hc2 : c.alt (upd c.H0 p (.frz od (.dK kvs))) c.C0 (c.M.filter fun x => decide (x ≠ p)) (fun i => if i = j then .ref p else c.args i) = c2 at w2 back
      have s2 : Stt c2 C σ (upd H p (.frz od (.dK kvs))) (env.set j .pin) T := by
        rw [← hc2] at w2 ⊢
        exact ⟨s1.e.lockD hv hM, by rw [slots_pin]; exact w2⟩
      have hP : PinD c2 j (kvs.map fun q => KD.k q.1) ds := by
        rw [← hc2]
        exact ⟨p, od, kvs, if_pos rfl, upd_same, fun q => by have := (List.mem_filter.mp q).2; simp at this, rfl, hfl, hf⟩
      have hg' : RG c2 g fg := by rw [← hc2]; exact hg _ _ _ _
      have hb' : RS c2 W tb (fb (kvs.map fun q => KD.k q.1) ds) := by rw [← hc2] at hP ⊢; exact hb _ _ _ _ _ _ hP
      have hargs : c2.args j = .ref p := by rw [← hc2]; exact if_pos rfl
      have out : ∀ {C5 H5 : Hp} {σ5 : L2.St} {e5 : Env}, Stt c2 C5 σ5 H5 e5 T → EnvOk c σ5 (e5.set j .no) := fun {C5 H5 σ5 e5} s5 => by
        have := s5.e
        rw [← hc2] at this
        exact this.unlockD
      -- leaving the loop
      have done : ∀ {C5 H5 : Hp} {σ5 : L2.St} {e5 : Env}, Stt c2 C5 σ5 H5 e5 T → e5[j]? = some .pin → H5 p = some (.frz od (.dK kvs)) ∧ Stt c C5 σ5 (upd H5 p (.dK kvs)) (e5.set j (kindE env j (.dct true 0 (kvs.map fun q => KD.k q.1) ds))) T := fun {C5 H5 σ5 e5} s5 h5 => by
        have hσ : σ5[j]? = some (some (.ref p)) := by
          have := s5.e.pin j h5
          rw [hargs] at this
          exact this
        obtain ⟨hh, w5⟩ := back _ _ _ s5.w
        refine ⟨hh, ?_⟩
        have s6 : Stt c C5 σ5 (upd H5 p (.dK kvs)) (e5.set j .no) ((.ref p, .dct true 0 (kvs.map fun q => KD.k q.1) ds) :: T) := by
          refine ⟨out s5, ?_⟩
          obtain ⟨R, hR⟩ := slots_no_less (σ := σ5) (env := e5) (j := j) (A := (V.ref p, D.dct true 0 (kvs.map fun q => KD.k q.1) ds) :: T)
          exact w5.less hR
        have := kd _ _ _ _ _ _ hσ s6
        rwa [List.set_set] at this
      have dl : (kvs.map (fun q => KD.k q.1)).map keyDD = kvs.map fun q => keyD q.1 := by rw [List.map_map]; rfl
      rw [dl] at n nb
      generalize hds : (kvs.map fun q => keyD q.1) = dk at n nb
      have lk : dk.length = kvs.length := by rw [← hds, List.length_map]
      refine ⟨.ref p, hv, p, od, rfl, .inl ⟨kvs, upd_same, ?_⟩⟩
      refine ⟨fun i m σ2 H2 => i ≤ dk.length ∧ m + i = dk.length ∧ ∃ C2 e2, Stt c2 C2 σ2 H2 e2 T ∧ Same C C2 ∧ loopF fg (fb (kvs.map fun q => KD.k q.1) ds) (dk.drop i) e2 = loopF fg (fb (kvs.map fun q => KD.k q.1) ds) dk (env.set j .pin), ⟨dk.length, by omega, by omega, C, env.set j .pin, s2, Same.refl _, by rw [List.drop_zero]⟩, ?_⟩
      rintro i m σ2 H2 ⟨hil, hm, C2, e2, s2', k2, eq2⟩
      have hh2 := (back _ _ _ s2'.w).1
      by_cases hlt : i < dk.length
      · have hdrop : dk.drop i = dk[i] :: dk.drop (i + 1) := List.drop_eq_getElem_cons hlt
        rw [hdrop, loopF_cons] at eq2
        have hlk : i < kvs.length := by omega
        have hdi : dk[i] = keyD kvs[i].1 := by subst hds; rw [List.getElem_map]
        refine .inr ⟨⟨hh2, hlk⟩, fun σ' H' => ∃ C' e', Stt c2 C' σ' H' e' T ∧ Same C C' ∧ loopF fg (fb (kvs.map fun q => KD.k q.1) ds) (dk.drop (i + 1)) e' = loopF fg (fb (kvs.map fun q => KD.k q.1) ds) dk (env.set j .pin), ?_, fun x3 H3 y3 => ?_⟩
        · rintro σ' H' ⟨C', e', s', k', q'⟩
          exact ⟨m - 1, by omega, by omega, by omega, C', e', s', k', q'⟩
        · obtain ⟨e3, kk, vv, e4, e5⟩ := y3
          subst e3
          have ek : kvs[i].1 = kk := by
            rw [List.getElem?_eq_getElem hlk] at e4
            have := Option.some.inj e4
            rw [this]
          subst e5
          subst ek
          rw [hdi] at eq2
          have s3 : Stt c2 C2 σ2 H3 e2 ((kV kvs[i].1, keyD kvs[i].1) :: T) := s2'.push (keyD_r _)
          refine hg' σ2 H3 C2 e2 _ _ _ s3 _ (fun e4 σ4 h4 s4 => ?_) (fun h4 => nb (by rw [← eq2, h4]; rfl))
          rw [h4] at eq2
          dsimp only at eq2
          refine hb' σ4 H3 C2 e4 _ _ s4 (fun e5 σ5 H5 C5 h5 s5 k5 => ?_) (fun d5 e5 v5 σ5 H5 C5 h5 s5 k5 => ?_) (fun e5 σ5 H5 C5 h5 s5 k5 => ?_) (fun e5 σ5 H5 C5 h5 s5 k5 => ?_) (fun y5 e5 cl dx σ5 H5 C5 h5 s5 k5 xr => ?_) (fun h5 => nb (by rw [← eq2, h5]; rfl))
          · rw [h5] at eq2
            exact ⟨C5, e5, s5, k2.trans k5, eq2⟩
          · rw [h5] at eq2
            exact absurd (by rw [← eq2]; rfl) nb
          · rw [h5] at eq2
            dsimp only at eq2
            cases hp : e5[j]? with
            | some z =>
              cases z with
              | pin =>
                obtain ⟨a1, a2⟩ := done s5 hp
                exact ⟨a1, n _ σ5 _ C5 (by rw [← eq2]; unfold unpinD; dsimp only; rw [hp]) a2 (k2.trans k5)⟩
              | _ => exact absurd (by rw [← eq2]; unfold unpinD; dsimp only; rw [hp]) nb
            | none => exact absurd (by rw [← eq2]; unfold unpinD; dsimp only; rw [hp]) nb
          · rw [h5] at eq2
            exact ⟨C5, e5, s5, k2.trans k5, eq2⟩
          · rw [h5] at eq2
            exact absurd (by rw [← eq2]; rfl) nb
      · have e : i = dk.length := by omega
        subst e
        rw [List.drop_length] at eq2
        have eq2 : R.nx e2 = loopF fg (fb (kvs.map fun q => KD.k q.1) ds) dk (env.set j .pin) := eq2
        refine .inl ⟨⟨hh2, by omega⟩, ?_⟩
        cases hp : e2[j]? with
        | some z =>
          cases z with
          | pin =>
            obtain ⟨a1, a2⟩ := done s2' hp
            exact ⟨a1, n _ σ2 _ C2 (by rw [← eq2]; unfold unpinD; dsimp only; rw [hp]) a2 k2⟩
          | _ => exact absurd (by rw [← eq2]; unfold unpinD; dsimp only; rw [hp]) nb
        | none => exact absurd (by rw [← eq2]; unfold unpinD; dsimp only; rw [hp]) nb
    · exact absurd (by rw [if_neg hfl]) nb
  cases hi : mutE env j with
  | none => exact absurd (by rw [fForD_e, hi]; try rfl) nb
  | some d =>
    cases d with
    | dct o t ks ds =>
      cases o with
      | true =>
        cases t with
        | zero => exact go ks ds hi
        | succ t => exact absurd (by rw [fForD_e, hi]; try rfl) nb
      | false => exact absurd (by rw [fForD_e, hi]; try rfl) nb
    | _ => exact absurd (by rw [fForD_e, hi]; try rfl) nb
end
end
end CV
namespace CV
noncomputable section
open PySem L2
/-! ### a dict of texts or numbers: != {} and len -/
def gNeX : D → D → Option D
  | .dct _ 0 ks _, .dct _ 0 [] [] => some (.bl (!ks.isEmpty))
  | d, e => gNe d e
section
variable {c : Cn}
def gLenY : List D → Option D
  | [.dct _ 0 ks _] => some (.int (ks.length : Int))
  | ds => gLen ds
end
end
end CV
namespace CV
noncomputable section
open PySem L2
/-! ### words' dicts walked, their equation lemmas -/
theorem keyDD_w (l : List Nat) : keyDD (wK l) = .str l := by
  show D.str ((S l).cps.toList) = _
  congr 1
theorem fForD_w {j : Nat} {fg : FG} {fb : List KD → List D → FS} {env : Env} {W : List (List Nat × Int)} (h : mutE env j = some (wD true W)) :
    fForD j fg fb env = unpinD j (kindE env j (wD true W)) (loopF fg (fb (W.map fun p => wK p.1) (W.map fun p => .int p.2)) (W.map fun p => .str p.1) (env.set j .pin)) := by
  rw [fForD_e, h]
  show (if (W.map fun p => D.int p.2).all flatD = true then unpinD j (kindE env j (wD true W)) (loopF fg (fb (W.map fun p => wK p.1) (W.map fun p => .int p.2)) ((W.map fun p => wK p.1).map keyDD) (env.set j .pin)) else .bad) = _
  have e1 : (W.map fun p => D.int p.2).all flatD = true := by
    rw [List.all_map, List.all_eq_true]
    intro p _; rfl
  have e2 : (W.map fun p => wK p.1).map keyDD = W.map fun p => .str p.1 := by
    rw [List.map_map]
    exact List.map_congr_left fun p _ => keyDD_w p.1
  rw [if_pos e1, e2]
theorem unpinD_nx {j : Nat} {x : Sl} {e : Env} (h : e[j]? = some .pin) : unpinD j x (.nx e) = .nx (e.set j x) := by
  unfold unpinD; dsimp only; rw [h]
theorem gLenY_t (ds : List D) : gLenY [.tup ds] = some (.int (ds.length : Int)) := rfl
theorem gLenY_s (l : List Nat) : gLenY [.str l] = gLen [.str l] := rfl
theorem gLenY_w (o : Bool) (W : List (List Nat × Int)) : gLenY [wD o W] = some (.int (W.length : Int)) := by
  show some (D.int ((W.map fun p => wK p.1).length : Int)) = _
  rw [List.length_map]
theorem gNeX_s (a b : List Nat) : gNeX (.str a) (.str b) = gNe (.str a) (.str b) := rfl
theorem wD_pinIx (W : List (List Nat × Int)) (l : List Nat) : gIx2 (.dct true 0 (W.map fun p => wK p.1) (W.map fun p => .int p.2)) (.str l) = (getA W l).map .int := wD_ix l true W
end
end CV
namespace CV
noncomputable section
open PySem L2
open PyProof.Rows (envOfC)
/-! ### C() of a class of the text without an __init__; isinstance of an instance; a method by the instance's class; recursion through methods -/
structure Mk0 (K : Fg) (C : Addr) : Prop where
  makes : PySem.W.makesIn K C = true
  init : PySem.W.findIn K (.ref C) "__init__" = some (some (.builtin "object.__init__"))
  kp : PySem.W.keepIn K (.ref C) = true
section
variable {X : Cx} {n d : Str} {p pos : Pos} {C : Addr}
/-! isinstance(x, D) -/
/-- what the text says of a class whose instances are asked -/
structure OwnC (K : Fg) (C : Addr) : Prop where
  cl : Cls K C
  ha : PySem.W.findIn K (.ref C) "__class__" = some (some (.builtin "object.__class__"))
  hn : PySem.W.specialIn K (.builtin "object.__class__") "__get__" = some (some (.builtin "getset_descriptor.__get__"))
  ht : PySem.W.takesIn K (.builtin "object.__class__") = some true
  hm : PySem.W.mroIn K C (.type "object") = some true
def IsOwn (K : Fg) (mg : Str → Option Value) (d : Str) (tbl : List (Str × Bool)) : Prop := ∃ Dc, mg d = some (.ref Dc) ∧ ∀ n b, tbl.lookup n = some b → ∀ C, clOf mg n = some C → OwnC K C ∧ PySem.W.kitOne K (.ref C) (.ref Dc) = some b
theorem IsOwn.some {K : Fg} {mg : Str → Option Value} {d : Str} {tbl : List (Str × Bool)} (h : IsOwn K mg d tbl) : ∃ Dc, mg d = some (.ref Dc) := ⟨_, h.choose_spec.1⟩
/-! one of two readings -/
end
/-! meanings -/
def fMake0 (n : Str) : FP := fun _ => .ok (.ins true n [] [])
theorem fMake0_e (n : Str) (env : Env) : fMake0 n env = .ok (.ins true n [] []) := rfl
def gIsO (tbl : List (Str × Bool)) : D → Option D
  | .ins _ n _ _ => (tbl.lookup n).map D.bl
  | _ => none
def fIsO (tbl : List (Str × Bool)) (a : FP) : FP := fun env => (a env).bind fun x => .of (gIsO tbl x)
theorem fIsO_e (tbl : List (Str × Bool)) (a : FP) (env : Env) : fIsO tbl a env = (a env).bind fun x => .of (gIsO tbl x) := rfl
section
variable {c : Cn} {W : WX} {ta t t' : TE} {fa f f' : FP} {n d : Str}
end
section
variable {P : Program} {w : World} {K : Fg} {mg : Str → Option Value} {base : Heap} {n m qual : Str} {st : Stmt} {dvs : List V} {N ps : List Str} {k : Nat} {Wp : Wp}
end
end
end CV
namespace CV
noncomputable section
open PySem L2
/-! ### a call of a def that walks a dict: as a plain expression, the dict as before -/
def fv : D → V
  | .bl b => .bl b
  | .int i => .int i
  | .str l => .str (S l)
  | _ => .non
section
variable {c : Cn} {W : WX} {tas : TA} {fas : Env → O (List AR)} {C H : Hp} {σ : L2.St} {env : Env} {T : List Ent}
end
end
end CV
namespace CV
noncomputable section
open PySem L2
/-! ### max of a list of numbers -/
section
variable {c : Cn}
end
end
end CV
namespace CV
noncomputable section
open PySem L2
/-! ### C(..) whose arguments are views: open lists may be among them -/
section
variable {c : Cn} {C H C' H' : Hp} {σ : L2.St} {env : Env} {T : List Ent}
end
def fMakeV (n : Str) (ks : List Bool) (F : List D → OM) (as : FA) : FP := fun env => (as env).bind fun ds => if ks = true :: ds.map fun _ => false then match F (.ins true n [] [] :: ds) with
  | .ok .non [d] => .ok d
  | .exc x _ => .exc x
  | _ => .bad
  else .bad
theorem fMakeV_e (n : Str) (ks : List Bool) (F : List D → OM) (as : FA) (env : Env) : fMakeV n ks F as env = (as env).bind fun ds => if ks = true :: ds.map fun _ => false then match F (.ins true n [] [] :: ds) with
  | .ok .non [d] => .ok d
  | .exc x _ => .exc x
  | _ => .bad
  else .bad := rfl
section
variable {c : Cn} {W : WX} {n : Str} {tas : TA} {fas : FA}
end
end
end CV
namespace CV
noncomputable section
open PySem L2
/-! ### C(..) whose arguments change what slots hold -/
def fMakeX (n : Str) (ks : List Bool) (F : List D → OM) (as : FXA) : FX := fun env => (as env).bind fun ds e => if (ks = true :: ds.map fun _ => false) ∧ clos ds = true then match F (.ins true n [] [] :: ds) with
  | .ok .non [d] => .ok d e
  | .exc x _ => .exc x e
  | _ => .bad
  else .bad
theorem fMakeX_e (n : Str) (ks : List Bool) (F : List D → OM) (as : FXA) (env : Env) : fMakeX n ks F as env = (as env).bind fun ds e => if (ks = true :: ds.map fun _ => false) ∧ clos ds = true then match F (.ins true n [] [] :: ds) with
  | .ok .non [d] => .ok d e
  | .exc x _ => .exc x e
  | _ => .bad
  else .bad := rfl
section
variable {c : Cn} {W : WX} {n : Str} {tas : TA} {fas : FXA}
end
end
end CV
namespace CV
noncomputable section
open PySem L2 PySem.Spec PyProof.Rows
/-! ### a caught exception is kept -/
/-- the exception at a, tracked -/
def xkO (a : Addr) (cls : Value) (d : Option Addr) : HO := .ext fun h => ∃ oe, h.get? a = some oe ∧ Zc cls d oe ∧ ∃ vs, oe.data = .fields vs
theorem xkO_ok {P : Program} {w : World} {H : Hp} {h : Heap} {a : Addr} {cls : Value} {d : Option Addr} {oe : Obj} (e : h.get? a = some oe) (z : Zc cls d oe) (f : ∃ vs, oe.data = .fields vs) : ObjOk P w H h a (xkO a cls d) :=
  ⟨⟨oe, e, z, f⟩, ⟨oe, e⟩, fun h1 h2 ⟨o, q, r⟩ k => ⟨o, k o q, r⟩⟩
section
variable {X : Cx} {pins : List (Addr × Obj)} {σ : L2.St} {H : Hp} {s : Shared}
/-- an object that the heap holds and that was not there at the entry is tracked from here on -/
theorem Inv.track {a : Addr} {o : HO} (I : Inv X pins σ H s) (n0 : X.s_0.heap.get? a = none) (na : H a = none) (nL : a ≠ X.env.locals) (nC : ∀ x c, X.env.cells.lookup x = some c → c ≠ a) (nP : ∀ p ∈ X.pn ++ pins, p.1 ≠ a)
    (new : ObjOk X.prog X.w (upd H a o) s.heap a o) : Inv X pins σ (upd H a o) s where
  ok := I.ok
  os := I.os
  bare := I.bare
  base := {
    keep := I.base.keep
    slot := I.base.slot
    free := fun b u e n x => by rw [upd_ne (fun z => by rw [z, n0] at e; cases e)]; exact I.base.free b u e n x
    there := I.base.there
    tups := fun b xs e => by
      have q := I.base.tups b xs e
      rw [upd_ne (ne_of_none q na)]; exact q
    frzs := fun b u xs e => by
      have q := I.base.frzs b u xs e
      rw [upd_ne (ne_of_none q na)]; exact q
    tbls := fun b ps e => by
      obtain ⟨m, q⟩ := I.base.tbls b ps e
      exact ⟨m, by rw [upd_ne (ne_of_none q na)]; exact q⟩ }
  loc := I.loc
  cell := I.cell
  free := by rw [upd_ne (Ne.symm nL)]; exact I.free
  freeC := fun x c e => by rw [upd_ne (nC x c e)]; exact I.freeC x c e
  pin := fun p hp => by
    obtain ⟨a1, a2, a3⟩ := I.pin p hp
    exact ⟨a1, by rw [upd_ne (nP p hp)]; exact a2, a3⟩
  hok := I.hok.laidN (fun _ _ q => q) na new
  len := I.len
end
/-- what the clause 'except x as n' wishes, behind whose suite the exception is tracked -/
def wKeep (K : Fg) (c : Value) (i : Nat) (ts : Addr → Value → Option Addr → TS) (Wout : WX) (D : Ends) : WX := fun cls d σ H =>
  ∃ b, PySem.W.exmOne K cls c = some b ∧ (b = true → ∀ a, H a = none → ts a cls d { nx := fun σ' H' => D.nx (σ'.set i none) (upd H' a (xkO a cls d)), rt := fun _ _ => False, bk := fun _ _ => False, ct := fun _ _ => False } (σ.set i (some (.ref a))) H) ∧
    (b = false → Wout cls d σ H)
section
variable {X : Cx} {x n : Str} {c : Value} {i : Nat} {body suite : List Stmt} {b₀ : Stmt} {np pos pos' : Pos} {tb : WX → TS} {ts : Addr → Value → Option Addr → TS} {Wout : WX}
theorem ps_try_keep (hs : X.stack = X.env :: X.outer) (hf : X.env.frame = some X.env.locals) (hx : X.ex = []) (hN : X.N.Nodup) (hi : X.N[i]? = some n) (hln : X.env.kindOf n = some .local) (hc : Names X x c) (tk : Takes X Wout)
    (hb : ∀ (W : WX) (pn : List (Addr × Obj)) (xe : Value → Shared → Prop), Takes (X.tr pn xe) W → PassesOwn (model X.prog X.w) X.A X.env xe → PSs (X.tr pn xe) body (tb W))
    (hsu : ∀ (a : Addr) (oe : Obj) (cls : Value) (d : Option Addr) (pn : List (Addr × Obj)), Zc cls d oe → (∃ vs, oe.data = .fields vs) → PSs (X.suite a ((a, oe) :: pn)) (b₀ :: suite) (ts a cls d)) :
    PS X (.Try body [.ExceptHandler (some (.Name x np)) (some n) (b₀ :: suite) pos'] [] [] pos) (fun D σ H => tb (wKeep X.K c i ts Wout D) D σ H) := by
  refine ⟨fun pins s σ H D I h => ?_⟩
  have ok := I.ok
  have hfr : X.A.frames = some (X.env :: X.outer) := by rw [ok.frames, hs]
  refine wpAny_Try_except ?_
  refine wpAny_mono ((hb (wKeep X.K c i ts Wout D) (X.pn ++ pins) _ (fun u s' xx => ?_) PassesOwn.looking).run [] s σ H D (I.toTry _) h) (fun f s1 hsp => ?_) (fun e s1 he => he)
  · obtain ⟨a, B, sI, pins', σ', H', cls, d, rfl, J', nb, up, sky, na, os, ag, b, hb1, hyes, hno⟩ := xx
    have J : Inv X pins σ' H' sI := J'.ofTry ok
    have sky' : Sky B (X.env :: X.outer) a (Zc cls d) X.env.locals s'.heap := by rw [← hs]; exact sky
    refine Sky.land Zc.steady hfr hf sky' fun h3 fl3 up3 => ?_
    have J3 : Inv X pins σ' H' { s' with heap := h3 } := J.landed nb fl3.1 (up.trans up3) os ag
    obtain ⟨oe3, vs3, he3, hz3, hd3⟩ := fl3.there
    have nfr : a ∉ frs (X.env :: X.outer) := fun hm => by
      obtain ⟨_, o', e', hnf⟩ := fl3.2.2.1.mem hm
      rw [he3] at e'; cases e'
      exact hnf _ hd3
    have nL : a ≠ X.env.locals := fun z => nfr (List.mem_filterMap.mpr ⟨X.env, List.mem_cons_self, by rw [hf, z]⟩)
    have nF : a ∉ X.fs := fun hm => by
      obtain ⟨e, he, q⟩ := List.mem_filterMap.mp hm
      exact nfr (List.mem_filterMap.mpr ⟨e, List.mem_cons_of_mem _ he, q⟩)
    have nB : B.get? a = none := fl3.2.1
    have gone : ∀ o, sI.heap.get? a = some o → False := fun o e => by
      have := nb a o e (by rw [hs]; exact nfr)
      rw [nB] at this; cases this
    have n0 : X.s_0.heap.get? a = none := by
      cases e : X.s_0.heap.get? a with
      | none => rfl
      | some o =>
        obtain ⟨o', e'⟩ := J.base.there a o e (by rw [hx]; exact fun z => nomatch z)
        exact (gone o' e').elim
    have nP : ∀ p ∈ X.pn ++ pins, p.1 ≠ a := fun p hp z => by
      obtain ⟨e1, _⟩ := J.pin p hp
      rw [z] at e1
      exact gone _ e1
    have nC : ∀ y q, X.env.cells.lookup y = some q → q ≠ a := fun y q e z => by
      obtain ⟨v, o, ho, _⟩ := J.cell y q e
      rw [z] at ho
      exact gone _ ho
    have S3 := J3.suite he3 hd3 na nL nF
    refine wpAny_handleBy_cons (codeAny_handlers_test ?_) (by intro q; cases q)
    have LT : PySem.W.Looks (model X.prog X.w) h3 (typeOf (.ref a)) cls := fun A Q E s k q => wpAny_typeOf_ref (k _ _ he3) (by rw [hz3.1]; exact q)
    have LM := PySem.W.exm_one (M := model X.prog X.w) (J3.kIn) LT hb1
    have test : ∀ {Q : Value → Shared → Prop} {E : Value → Shared → Prop}, Q c { s' with heap := h3 } → wpAny (model X.prog X.w) (X.A.mark (some (.ref a))) (eval (.Name x np) X.env) Q E { s' with heap := h3 } := fun {Q E} q => by
      obtain ⟨hg, hdbg, hm | ⟨hm, hv, hnn⟩⟩ := hc
      · exact ld_glob (X := X.suite a ((a, oe3) :: (X.pn ++ pins))) S3 hg hm q hdbg
      · exact ld_blt (X := X.suite a ((a, oe3) :: (X.pn ++ pins))) S3 hg hm hv q hnn hdbg
    refine test (LM.here ?_)
    cases b with
    | true =>
      refine codeAny_handlers_suite_as ?_
      refine HandSPX.lands_againZ fl3 fun h4 fl4 up4 => ?_
      have J4 : Inv X pins σ' H' { s' with heap := h4 } := J.landed nb fl4.1 ((up.trans up3).trans up4) os ag
      obtain ⟨oe4, vs4, he4, hz4, hd4⟩ := fl4.there
      have S4 := J4.suite he4 hd4 na nL nF
      refine store_ok (X := X.suite a ((a, oe4) :: (X.pn ++ pins))) (v := .ref a) S4 hN hi (.inl hln) rfl (fun s5 S5 => ?_) (.inr hln)
      refine wpAny_mono ((hsu a oe4 cls d (X.pn ++ pins) hz4 ⟨_, hd4⟩).run [] s5 _ H' _ S5 (hyes rfl a na)) (fun f s6 hsp => ?_) (fun _ _ z => False.elim z)
      cases f with
      | next =>
        obtain ⟨σ6, H6, S6, q6⟩ := hsp
        -- the exception stays pinned while its name goes
        have T6 : Inv X ((a, oe4) :: pins) σ6 H6 s6 := ⟨ok, S6.os, S6.bare, S6.base, S6.loc, S6.cell, S6.free, S6.freeC, fun p hp => S6.pin p (by
          show p ∈ ((a, oe4) :: (X.pn ++ pins)) ++ []
          rw [List.append_nil]
          rcases List.mem_append.mp hp with z | z
          · exact List.mem_cons_of_mem _ (List.mem_append_left _ z)
          · rcases List.mem_cons.mp z with z | z
            · rw [z]; exact List.mem_cons_self
            · exact List.mem_cons_of_mem _ (List.mem_append_right _ z)), S6.hok, S6.len⟩
        refine gone_ok T6 hN hi hln fun s7 J7 => ?_
        obtain ⟨p1, p2, _⟩ := J7.pin (a, oe4) (List.mem_append_right _ List.mem_cons_self)
        have J8 : Inv X pins (σ6.set i none) H6 s7 := ⟨J7.ok, J7.os, J7.bare, J7.base, J7.loc, J7.cell, J7.free, J7.freeC, fun p hp => J7.pin p (by
          rcases List.mem_append.mp hp with z | z
          · exact List.mem_append_left _ z
          · exact List.mem_append_right _ (List.mem_cons_of_mem _ z)), J7.hok, J7.len⟩
        exact ⟨_, _, Inv.track J8 n0 p2 nL nC nP (xkO_ok p1 hz4 ⟨_, hd4⟩), q6⟩
      | brk =>
        obtain ⟨σ6, H6, S6, q6⟩ := hsp
        exact q6.elim
      | cont =>
        obtain ⟨σ6, H6, S6, q6⟩ := hsp
        exact q6.elim
      | ret u =>
        obtain ⟨v6, σ6, H6, S6, r6, q6⟩ := hsp
        exact q6.elim
    | false =>
      show wpAny _ X.A (handleBy (.ref a) X.env []) _ _ _
      refine wpAny_handleBy_nil ?_
      obtain ⟨k1, k2, k3, oe, vs, T, oT, ts', he, hz, hd, h1, hr⟩ := id fl3
      unfold PySem.passOn
      refine wpAny_bind (wpAny_field he hd h1 ?_)
      rw [if_neg (show ¬ ((Value.ref T == Value.none) = true) from by simp)]
      have fin : wpAny (model X.prog X.w) X.A (setFlight (.ref a) X.env.frame) (fun _ s4 => wpAny (model X.prog X.w) X.A (throw (.ref a) : Sem Flow) (SP X pins D) X.xe s4) X.xe { s' with heap := h3 } := by
        rw [hf]
        exact HandSPX.setFlight_upZ fl3 fun h4 hh4 up4 => wpAny_throw (tk _ _ ⟨a, B, sI, pins, σ', H', cls, d, rfl, J, nb, (up.trans up3).trans up4, .inr (.inr (by rw [hs]; exact hh4)), na, os, ag, hno rfl⟩)
      first
        | exact wpAny_bind (wpAny_pure (wpAny_bind fin))
        | exact wpAny_bind fin
  · cases f with
    | ret u =>
      obtain ⟨v, σ', H', J', r, q⟩ := hsp
      exact ⟨v, σ', H', J'.ofTry ok, r, q⟩
    | next =>
      obtain ⟨σ', H', J', q⟩ := hsp
      exact wpAny_execs_nil ⟨σ', H', J'.ofTry ok, q⟩
    | _ =>
      obtain ⟨σ', H', J', q⟩ := hsp
      exact ⟨σ', H', J'.ofTry ok, q⟩
end
end
end CV
namespace CV
noncomputable section
open PySem L2 PySem.Spec PyProof.Rows
/-! ### kept exceptions as data -/
def wKeepN (Wp : Wp) (tbl : List (Str × Bool)) (i : Nat) (ts : Addr → Value → Option Addr → TS) (Wout : WX) (D : Ends) : WX := fun cls d σ H => ∃ n b C, (n, b) ∈ tbl ∧ Wp.cl n = some C ∧ cls = .ref C ∧
  (b = true → ∀ a, H a = none → ts a cls d { nx := fun σ' H' => D.nx (σ'.set i none) (upd H' a (xkO a cls d)), rt := fun _ _ => False, bk := fun _ _ => False, ct := fun _ _ => False } (σ.set i (some (.ref a))) H) ∧
  (b = false → Wout cls d σ H)
def tTryK (Wp : Wp) (tbl : List (Str × Bool)) (i : Nat) (tb : WX → TS) (ts : Addr → Value → Option Addr → TS) (Wout : WX) : TS := fun D σ H => tb (wKeepN Wp tbl i ts Wout D) D σ H
section
variable {X : Cx} {x n : Str} {c : Value} {i : Nat} {body suite : List Stmt} {b₀ : Stmt} {np pos pos' : Pos} {tb : WX → TS} {ts : Addr → Value → Option Addr → TS} {Wout : WX} {Wp : Wp} {tbl : List (Str × Bool)}
theorem ps_tryK (hs : X.stack = X.env :: X.outer) (hf : X.env.frame = some X.env.locals) (hx : X.ex = []) (hN : X.N.Nodup) (hi : X.N[i]? = some n) (hln : X.env.kindOf n = some .local) (hc : Names X x c) (tk : Takes X Wout)
    (htb : ∀ n b, (n, b) ∈ tbl → ∀ C, Wp.cl n = some C → PySem.W.exmOne X.K (.ref C) c = some b)
    (hb : ∀ (W : WX) (pn : List (Addr × Obj)) (xe : Value → Shared → Prop), Takes (X.tr pn xe) W → PassesOwn (model X.prog X.w) X.A X.env xe → PSs (X.tr pn xe) body (tb W))
    (hsu : ∀ (a : Addr) (oe : Obj) (cls : Value) (d : Option Addr) (pn : List (Addr × Obj)), Zc cls d oe → (∃ vs, oe.data = .fields vs) → PSs (X.suite a ((a, oe) :: pn)) (b₀ :: suite) (ts a cls d)) :
    PS X (.Try body [.ExceptHandler (some (.Name x np)) (some n) (b₀ :: suite) pos'] [] [] pos) (tTryK Wp tbl i tb ts Wout) :=
  ps_weak (ps_try_keep (tb := fun W D σ H => ∃ V : WX, (∀ cls d σ H, V cls d σ H → W cls d σ H) ∧ tb V D σ H) (ts := ts) (Wout := Wout) hs hf hx hN hi hln hc tk
    (fun W pn xe tk' po => ⟨fun pins s σ H D I ⟨V, hV, h⟩ => (hb V pn xe (tk'.imp hV) po).run pins s σ H D I h⟩) hsu) fun D σ H h =>
    ⟨wKeepN Wp tbl i ts Wout D, fun cls d σ' H' ⟨n', b, C, hin, hC, ec, h1, h2⟩ => ⟨b, by subst ec; exact htb n' b hin C hC, h1, h2⟩, h⟩
end
/-- try: .. except X as e: k = e -/
def fTryK (tbl : List (Str × Bool)) (i j : Nat) (fb : FS) : FS := fun env => match fb env with
  | .exc x e => if i < e.length ∧ j < e.length ∧ i ≠ j ∧ x.ds.length = x.ns.length then (match tbl.lookup x.cl with
    | some true => .nx ((e.set j (.own (.xc x.cl x.ns x.ds))).set i .no)
    | some false => .exc x e
    | none => .bad) else .bad
  | r => r
theorem fTryK_e (tbl : List (Str × Bool)) (i j : Nat) (fb : FS) (env : Env) : fTryK tbl i j fb env = (match fb env with
  | .exc x e => if i < e.length ∧ j < e.length ∧ i ≠ j ∧ x.ds.length = x.ns.length then (match tbl.lookup x.cl with
    | some true => .nx ((e.set j (.own (.xc x.cl x.ns x.ds))).set i .no)
    | some false => .exc x e
    | none => .bad) else .bad
  | r => r) := rfl
theorem set_swap {α : Type} (l : List α) {i j : Nat} (x y z : α) (h : i ≠ j) : ((l.set i x).set j y).set i z = (l.set j y).set i z := by
  rw [List.set_comm x y h, List.set_set]
section
variable {c : Cn} {W : WX} {tb : WX → TS} {fb : FS} {tbl : List (Str × Bool)} {i j : Nat}
theorem rs_tryK (hb : ∀ W', RS c W' (tb W') fb) : RS c W (tTryK c.W tbl i tb (fun _ _ _ => tSeq (tAsg (tVar i) (gName j)) tNext) W) (fTryK tbl i j fb) := fun σ H C env T dn s n r b t x nb => by
  rw [fTryK_e] at nb
  simp only [fTryK_e] at n r b t x
  refine hb _ σ H C env T dn s (fun e σ' H' C' e1 => n e σ' H' C' (by rw [e1])) (fun d e v σ' H' C' e1 => r d e v σ' H' C' (by rw [e1])) (fun e σ' H' C' e1 => b e σ' H' C' (by rw [e1])) (fun e σ' H' C' e1 => t e σ' H' C' (by rw [e1])) (fun y e cl dx σ' H' C' e1 s1 k1 xr => ?_) (fun e1 => nb (by rw [e1]))
  rw [e1] at n x nb
  dsimp only at n x nb
  by_cases hi : i < e.length ∧ j < e.length ∧ i ≠ j ∧ y.ds.length = y.ns.length
  · rw [if_pos hi] at n x nb
    obtain ⟨hi, hj, hij, hyl⟩ := hi
    cases hl : tbl.lookup y.cl with
    | none => rw [hl] at nb; exact absurd rfl nb
    | some bb =>
      rw [hl] at n x nb
      obtain ⟨Ca, h1, h2, h3⟩ := xr
      refine ⟨y.cl, bb, Ca, lookup_mem hl, h1, h2, fun eb a ha => ?_, fun eb => ?_⟩
      · subst eb
        subst h2
        dsimp only at n nb
        have s3 : Stt c (upd C' a (xkO a (.ref Ca) dx)) σ' (upd H' a (xkO a (.ref Ca) dx)) e T := ⟨s1.e, s1.w.laid ha⟩
        have kk : Same C' (upd C' a (xkO a (.ref Ca) dx)) := same_upd (s1.w.sub.free ha)
        have rx : RpF c.W (upd C' a (xkO a (.ref Ca) dx)) (upd H' a (xkO a (.ref Ca) dx)) (.ref a) (.xc y.cl y.ns y.ds) [] := by
          rcases h3 with ⟨z1, z2⟩ | ⟨p, fs, z1, z2, z3, z4⟩
          · subst z2
            have zd : y.ds = [] := by rw [z1] at hyl; exact List.length_eq_zero_iff.mp hyl
            rw [z1, zd]
            exact .xc0 h1 upd_same
          · subst z1
            rw [← z3]
            exact .xc1 h1 upd_same (kk _ _ z2) (RpFs.mono kk (fun a ha => by simp at ha) z4)
        refine ⟨.ref a, List.getElem?_set_self (by rw [s1.e.len]; exact hi), ?_⟩
        show dn.nx (((σ'.set i (some (.ref a))).set j (some (.ref a))).set i none) _
        rw [set_swap σ' _ _ _ hij]
        exact n _ _ _ _ rfl ((s3.push rx).set (i := j)).wipe (k1.trans kk)
      · subst eb
        exact x y e cl dx σ' H' C' rfl s1 k1 ⟨Ca, h1, h2, h3⟩
  · rw [if_neg hi] at nb; exact absurd rfl nb
end
/-! isinstance of a kept one -/
def rIsXK (K : Fg) : List V → Hp → VK → Prop := fun xs H Q => ∃ (a D : Addr) (d : Option Addr) (b : Bool), ExcC K D ∧ H a = some (xkO a (.ref D) d) ∧ aliveD H d ∧
  ((∃ (c : V) (cv : Value), xs = [.ref a, c] ∧ (∀ u, RelV c u → u = cv) ∧ PySem.W.kitOne K (.ref D) cv = some b) ∨
   (∃ (p : Addr) (vs : List V) (cvs : List Value), xs = [.ref a, .ref p] ∧ H p = some (.tup vs) ∧ (∀ us, Vals vs us → us = cvs) ∧ PySem.W.kitAny K (.ref D) cvs = some b)) ∧ Q (.bl b) H
theorem call_isXK {X : Cx} : CallR X (.builtin "isinstance") (rIsXK X.K) := by
  intro pins s σ H xs us Q I r h
  obtain ⟨a, D, d, b, C, ha, al, h, q⟩ := h
  obtain ⟨⟨oe, hget, hz, fv, hv⟩, _, _⟩ := (show ObjOk X.prog X.w H s.heap a (xkO a (.ref D) d) from I.hok a _ ha)
  have J : ∃ od, PySem.W.InstAt s.heap a oe D od := by
    rcases al with e | ⟨dd, fs, e, hd⟩
    · subst e
      exact ⟨none, hget, hz.1, by unfold PySem.W.notCls; rw [hv] <;> rfl, by rw [hz.2]; exact trivial⟩
    · subst e
      obtain ⟨mA, hns, hr⟩ := (show ObjOk X.prog X.w H s.heap dd (.xd fs) from I.hok dd _ hd)
      obtain ⟨od, ho, hl⟩ := lookIn_ns hns
      exact ⟨some od, hget, hz.1, by unfold PySem.W.notCls; rw [hv] <;> rfl, by rw [hz.2]; exact ho⟩
  obtain ⟨od, J⟩ := J
  have hcl : (PySem.W.clsIn X.K D).isSome = true := by
    obtain ⟨cd, hc, _⟩ := PySem.W.any_some C.hd
    rw [hc]; rfl
  have Z := PySem.W.kitx_exc (x := a) (ox := oe) (od := od) hcl C.hg C.hk C.hs C.ha C.hn C.ht C.hm
  rcases h with ⟨c, cv, e, hcv, hk⟩ | ⟨p, vs, cvs, e, hp, hcv, hk⟩
  · subst e
    cases r with
    | cons rx rr =>
      cases rr with
      | cons rt rr =>
        cases rr
        cases rx
        have ec := hcv _ rt
        subst ec
        exact PySem.W.kia_one Z I.kIn J hk (fun z => nomatch z) fun tk => ⟨.bl b, H, I.kept (t' := tk) fun _ _ z => z, rfl, q⟩
  · subst e
    cases r with
    | cons rx rr =>
      cases rr with
      | cons rt rr =>
        cases rr
        cases rx
        cases rt
        obtain ⟨its, rv, pt, _⟩ := I.tuple (SqT.of hp)
        have ei := hcv _ rv
        subst ei
        obtain ⟨o, ho, hcl, n, hd⟩ := pt
        obtain ⟨oc, odd, oda, osl⟩ := o
        dsimp only at hcl hd
        subst hcl hd
        exact PySem.W.kia_tup Z I.kIn J ho hk (fun z => nomatch z) fun tk => ⟨.bl b, H, I.kept (t' := tk) fun _ _ z => z, rfl, q⟩
def tIsXK (Wp : Wp) (tbl : List (Str × Bool)) (te : TE) : TE := fun σ H Q => te σ H fun v H1 => ∃ (a : Addr) (n : Str) (b : Bool) (D : Addr) (d : Option Addr), v = .ref a ∧ (n, b) ∈ tbl ∧ Wp.cl n = some D ∧ H1 a = some (xkO a (.ref D) d) ∧ aliveD H1 d ∧
  ∀ H', (H' = H1 ∨ ∃ p vs, H1 p = none ∧ H' = upd H1 p (.tup vs)) → Q (.bl b) H'
section
variable {X : Cx} {Wp : Wp} {tbl : List (Str × Bool)} {ex ec : Expr} {te : TE} {p pos : Pos}
theorem pe_isXK1 {c : V} {cv : Value} (hm : X.mg "isinstance" = none) (ht : IsTbl X.K Wp tbl [cv]) (hcv : ∀ u, RelV c u → u = cv) (hx : PE X ex te) (hc : PE X ec (tC c)) (hg : Gl X "isinstance" := by rfl)
    (hs1 : starEach [ex, ec] X.env = (false, eval ex X.env) :: starEach [ec] X.env := by rfl) (hs2 : starEach [ec] X.env = (false, eval ec X.env) :: starEach [] X.env := by rfl) (hpl : (backTo pos (starEach [ec] X.env)).any (·.1) = false := by rfl) :
    PE X (.Call (.Name "isinstance" p) [ex, ec] [] pos) (tIsXK Wp tbl te) :=
  pe_weak (pe_callB call_isXK hg hm (by decide +kernel) (pa_cons (pe_mono hx) (pa_cons hc pa_nil hs2) hs1) (by decide) (by decide) hs1 hpl) fun σ H Q h =>
    ⟨_, h, fun v H1 ⟨a, n, b, D, d, ev, hin, hcl, ha, al, q⟩ => by
      obtain ⟨h1, h2⟩ := ht n b hin D hcl
      exact ⟨a, D, d, b, h1, ha, al, .inl ⟨c, cv, by rw [ev], hcv, kitAny_one h2⟩, q H1 (.inl rfl)⟩⟩
end
/-! a field of a kept one -/
theorem fa_nil {α : Type} {P : α → Prop} : ∀ n ∈ ([] : List α), P n := fun n h => by simp at h
theorem fa_cons {α : Type} {P : α → Prop} {x : α} {xs : List α} (h : P x) (t : ∀ n ∈ xs, P n) : ∀ n ∈ x :: xs, P n := fun n hn => by
  rcases List.mem_cons.mp hn with e | e
  · rw [e]; exact h
  · exact t n e
def tXfK (Wp : Wp) (xs : List Str) (f : Str) (te : TE) : TE := fun σ H Q => te σ H fun v H1 => ∃ (a : Addr) (n : Str) (C dd : Addr) (fs : List (Str × V)) (u : V), v = .ref a ∧ n ∈ xs ∧ Wp.cl n = some C ∧ H1 a = some (xkO a (.ref C) (some dd)) ∧ H1 dd = some (.xd fs) ∧ fs.lookup f = some u ∧ Q u H1
theorem pe_xfK {X : Cx} {e : Expr} {te : TE} {pos : Pos} {f : Str} {xs : List Str} {Wp : Wp} (hT : ∀ n ∈ xs, ∀ C, Wp.cl n = some C → XfC X.K C ∧ PySem.W.findIn X.K (.ref C) f = some none) (he : PE X e te) (hb : attributeBase e f X.env (eval e X.env) = eval e X.env := by rfl) :
    PE X (.Attribute e f pos) (tXfK Wp xs f te) := by
  refine ⟨fun pins s σ H Q I h => ?_⟩
  refine attr_of hb (thn (he.run pins s σ H _ I h) fun u s1 hh => ?_)
  obtain ⟨v, H1, I1, rx, a, n, C, dd, fs, u', ev, hin, hC, ha, hd, hl, q⟩ := hh
  subst ev
  obtain rfl : u = Value.ref a := rx
  obtain ⟨T, hno⟩ := hT n hin C hC
  obtain ⟨⟨oe, hget, hz, vs, hv⟩, _, _⟩ := (show ObjOk X.prog X.w H1 s1.heap a (xkO a (.ref C) (some dd)) from I1.hok a _ ha)
  obtain ⟨mA, hns, hr⟩ := (show ObjOk X.prog X.w H1 s1.heap dd (.xd fs) from I1.hok dd _ hd)
  obtain ⟨od, ho, hlo⟩ := lookIn_ns hns
  obtain ⟨u, hu, ru⟩ := RelO.some_of (v := u') (o := mA f) (by rw [← hl]; exact hr f)
  have J : PySem.W.InstAt s1.heap a oe C (some od) := ⟨hget, hz.1, by unfold PySem.W.notCls; rw [hv] <;> rfl, by rw [hz.2]; exact ho⟩
  exact HandSPX.exc_get I1.kIn J T.ga T.gg T.exC (PySem.W.findObj_own T.hdC hno rfl (by rw [hlo, hu])) (handed_of ru) ⟨u', H1, I1.tok _, ru, q⟩
/-! what they mean -/
def gIsX (tbl : List (Str × Bool)) : D → Option D
  | .xc n _ _ => (tbl.lookup n).map .bl
  | _ => none
def fIsX (tbl : List (Str × Bool)) (fa : FP) : FP := fun env => (fa env).bind fun x => .of (gIsX tbl x)
theorem fIsX_e (tbl : List (Str × Bool)) (fa : FP) (env : Env) : fIsX tbl fa env = (fa env).bind fun x => .of (gIsX tbl x) := rfl
def gXf (xs : List Str) (f : Str) : D → Option D
  | .xc n ns ds => if n ∈ xs then (ns.zip ds).lookup f else none
  | _ => none
def fXfK (xs : List Str) (f : Str) (fa : FP) : FP := fun env => (fa env).bind fun x => .of (gXf xs f x)
theorem fXfK_e (xs : List Str) (f : Str) (fa : FP) (env : Env) : fXfK xs f fa env = (fa env).bind fun x => .of (gXf xs f x) := rfl
section
variable {c : Cn} {W : WX} {ta : TE} {fa : FP}
theorem RpF.xk {Wp : Wp} {C H : Hp} {v : V} {n : Str} {ns : List Str} {ds : List D} {F : List Addr} (r : RpF Wp C H v (.xc n ns ds) F) : ∃ a Ca d, v = .ref a ∧ Wp.cl n = some Ca ∧ C a = some (xkO a (.ref Ca) d) ∧ ((d = none ∧ ns = []) ∨ ∃ p fs, d = some p ∧ C p = some (.xd fs) ∧ fs.map (·.1) = ns ∧ RpFs Wp C H (fs.map (·.2)) ds []) := by
  cases r with
  | xc0 h s => exact ⟨_, _, none, rfl, h, s, .inl ⟨rfl, rfl⟩⟩
  | xc1 h s t r => exact ⟨_, _, _, rfl, h, s, .inr ⟨_, _, rfl, t, rfl, r⟩⟩
theorem rp_isX {tbl : List (Str × Bool)} (ha : RV c W ta fa) : RP c W (tIsXK c.W tbl ta) (fIsX tbl fa) := fun σ H C env T s Q q x nb =>
  ha σ H C env T s _ (fun d1 v1 H1 C1 F1 e1 s1 k1 t1 r1 => by
    have ee : fIsX tbl fa env = O.of (gIsX tbl d1) := by rw [fIsX_e, e1]; rfl
    rw [ee] at q nb
    cases d1 with
    | xc n ns ds =>
      cases eb : tbl.lookup n with
      | none => exact absurd (by show O.of ((tbl.lookup n).map D.bl) = _; rw [eb]; rfl) nb
      | some b =>
        obtain ⟨a, Ca, d, ev, h1, h2, h3⟩ := r1.xk
        have eg : O.of (gIsX tbl (.xc n ns ds)) = .ok (.bl b) := by show O.of ((tbl.lookup n).map D.bl) = _; rw [eb]; rfl
        refine ⟨a, n, b, Ca, d, ev, lookup_mem eb, h1, s1.w.sub _ _ h2, ?_, fun H' hH => ?_⟩
        · rcases h3 with ⟨e, _⟩ | ⟨p, fs, e, ep, _, _⟩
          · exact .inl e
          · exact .inr ⟨p, fs, e, s1.w.sub _ _ ep⟩
        · rcases hH with e | ⟨p, vs, hp, e⟩
          · subst e
            exact q _ _ _ C1 eg (s1.push (.bl b)) k1 t1
          · subst e
            exact q _ _ _ _ eg (Stt.push ⟨s1.e, s1.w.laid hp⟩ (.bl b)) (k1.trans (same_upd (s1.w.sub.free hp))) (t1.trans (same_upd hp))
    | _ => exact absurd rfl nb)
  (fun y cl dx H' C' e1 => x y cl dx H' C' (by unfold fIsX; rw [e1]; rfl)) (fun e1 => nb (by unfold fIsX; rw [e1]; rfl))
theorem rp_xfK {xs : List Str} {f : Str} (ha : RV c W ta fa) : RP c W (tXfK c.W xs f ta) (fXfK xs f fa) := fun σ H C env T s Q q x nb =>
  ha σ H C env T s _ (fun d1 v1 H1 C1 F1 e1 s1 k1 t1 r1 => by
    have ee : fXfK xs f fa env = O.of (gXf xs f d1) := by rw [fXfK_e, e1]; rfl
    rw [ee] at q nb
    cases d1 with
    | xc n ns ds =>
      by_cases hn : n ∈ xs
      · have eg : gXf xs f (.xc n ns ds) = (ns.zip ds).lookup f := if_pos hn
        rw [eg] at q nb
        cases hd : (ns.zip ds).lookup f with
        | none => rw [hd] at nb; exact absurd rfl nb
        | some d0 =>
          obtain ⟨a, Ca, d, ev, h1, h2, h3⟩ := r1.xk
          rcases h3 with ⟨_, e⟩ | ⟨p, fs, e, ep, en, r⟩
          · rw [e] at hd; simp at hd
          · obtain ⟨v, hv, rv⟩ := fld_get en r hd
            subst e
            refine ⟨a, n, Ca, p, fs, v, ev, hn, h1, s1.w.sub _ _ h2, s1.w.sub _ _ ep, hv, q d0 v H1 C1 (by rw [hd]; rfl) (s1.push (RpF.mono (Same.refl _) (fun a ha => by simp at ha) rv)) k1 t1⟩
      · have eg : gXf xs f (.xc n ns ds) = none := if_neg hn
        rw [eg] at nb; exact absurd rfl nb
    | _ => exact absurd rfl nb)
  (fun y cl dx H' C' e1 => x y cl dx H' C' (by unfold fXfK; rw [e1]; rfl)) (fun e1 => nb (by unfold fXfK; rw [e1]; rfl))
end
end
end CV
/-! ### set(xs), xs a list of tuples (of texts, numbers, tuples) -/
namespace CVT
open PySem PySem.Spec PyProof.Rows L2 CV CVS
section
variable {P : Program} {w : World}
/-- no such key is of a class statement -/
def NoStmt (P : Program) (w : World) (n : Nat) (s : Shared) (v : Value) : Prop := ∀ (A : Around) (E : Value → Shared → Prop) (Q : Bool → Shared → Prop), Q false s → wpAny (model P w) A (ofAClassStatement n v) Q E s
/-- whether its hash is by value is told without a trace -/
def HashTold (P : Program) (w : World) (n : Nat) (s : Shared) (v : Value) : Prop := ∀ (A : Around) (E : Value → Shared → Prop) (Q : Bool → Shared → Prop), (∀ b, Q b s) → wpAny (model P w) A (hashByValue n v) Q E s
theorem NoStmt.tuple {n : Nat} {s : Shared} {a : Addr} {o : Obj} {vs : Array Value} {m : Nat} (ho : s.heap.get? a = some o) (hc : o.cls = .type "tuple") (hd : o.data = .seq vs m) (hq : ∀ v ∈ vs.toList, NoStmt P w n s v) : NoStmt P w (n + 1) s (.ref a) := fun A E Q h => by
  have hT : s.TypeIs (.ref a) "tuple" := ⟨o, ho, hc⟩
  unfold ofAClassStatement
  refine wpAny_bind (wpAny_typeOf hT ?_)
  dsimp only
  have e : (("tuple" : String) == "tuple") = true := by decide
  simp only [e, if_true, Bool.not_true, Bool.false_eq_true, if_false]
  try refine wpAny_bind (wpAny_pure ?_)
  try simp only [Bool.not_true, Bool.false_eq_true, if_false]
  show wpAny _ _ (seqItems? (.ref a) >>= _) _ _ s
  refine wpAny_bind (wpAny_seqItems ho hd ?_)
  dsimp only
  refine wpAny_bind ?_
  show wpAny _ _ (forIn vs _ _) _ _ s
  rw [← Array.forIn_toList]
  refine wpAny_forIn_list _ (fun rest r z => r.1 = none ∧ z = s ∧ ∀ v ∈ rest, NoStmt P w n s v) _ ?_ ?_ _ _ ⟨rfl, rfl, hq⟩
  · rintro v rest r z ⟨hr, rfl, hall⟩
    refine wpAny_bind (hall v List.mem_cons_self _ _ _ ?_)
    simp only [Bool.false_eq_true, if_false]
    exact wpAny_pure ⟨rfl, rfl, fun u hu => hall u (List.mem_cons_of_mem _ hu)⟩
  · rintro ⟨r1, r2⟩ z ⟨hr, rfl, _⟩
    simp only at hr
    subst hr
    exact wpAny_pure h
theorem HashTold.tuple {n : Nat} {s : Shared} {a : Addr} {o : Obj} {vs : Array Value} {m : Nat} (ho : s.heap.get? a = some o) (hc : o.cls = .type "tuple") (hd : o.data = .seq vs m) (hq : ∀ v ∈ vs.toList, HashTold P w n s v) : HashTold P w (n + 1) s (.ref a) := fun A E Q h => by
  have hT : s.TypeIs (.ref a) "tuple" := ⟨o, ho, hc⟩
  unfold hashByValue
  refine wpAny_bind (wpAny_specialOf hT F.slot_tuple_hash.lookup ?_)
  show wpAny _ _ (seqItems? (.ref a) >>= _) _ _ s
  refine wpAny_bind (wpAny_seqItems ho hd ?_)
  refine wpAny_bind ?_
  show wpAny _ _ (forIn vs _ _) _ _ s
  rw [← Array.forIn_toList]
  refine wpAny_forIn_list _ (fun rest r z => r.1 = none ∧ z = s ∧ ∀ v ∈ rest, HashTold P w n s v) _ ?_ ?_ _ _ ⟨rfl, rfl, hq⟩
  · rintro v rest r z ⟨hr, rfl, hall⟩
    refine wpAny_bind (hall v List.mem_cons_self _ _ _ fun b => ?_)
    cases b
    · simp only [Bool.not_false, if_true]
      exact wpAny_pure (wpAny_pure (h _))
    · simp only [Bool.not_true, Bool.false_eq_true, if_false]
      exact wpAny_pure ⟨rfl, rfl, fun u hu => hall u (List.mem_cons_of_mem _ hu)⟩
  · rintro ⟨r1, r2⟩ z ⟨hr, rfl, _⟩
    simp only at hr
    subst hr
    exact wpAny_pure (h _)
end
/-- the tuple at b is the key k -/
abbrev IsK (h : Heap) (k : NK) (b : Addr) : Prop := NkIs h k (.ref b)
section
variable {P : Program} {w : World} {A : Around} {E : Value → Shared → Prop} {s : Shared}
end
/-! what a set of such keys is -/
def entK (w : World) (p : Addr × NK) : Int × Value := (p.2.hash w, .ref p.1)
structure SetK (w : World) (h : Heap) (a : Addr) (L : List (Addr × NK)) (es : Array (Int × Value)) (ep : Nat) (t : SetTable) : Prop where
  ob : ∃ o, h.get? a = some o ∧ o.ExactSet ∧ o.data = .set es ep t
  rows : es.toList = L.map (entK w)
  tab : TabOk t (L.map fun p => p.2.hash w)
  nd : (L.map (·.2)).Nodup
  key : ∀ p ∈ L, IsK h p.2 p.1
  room : L.length * 5 < t.mask * 3
  few : L.length < 64
section
variable {P : Program} {w : World} {A : Around} {E : Value → Shared → Prop} {s : Shared}
variable {a : Addr} {L : List (Addr × NK)} {es : Array (Int × Value)} {ep : Nat} {t : SetTable}
end
end CVT
namespace CVT
open PySem PySem.Spec PyProof.Rows L2 CV CVS
section
variable {P : Program} {w : World} {A : Around} {E : Value → Shared → Prop} {s : Shared}
variable {a : Addr} {L : List (Addr × NK)} {es : Array (Int × Value)} {ep : Nat} {t : SetTable}
end
end CVT
namespace CVT
open PySem PySem.Spec PyProof.Rows L2 CV CVS
section
variable {prog : Program} {w : World} {A : Around} {E : Value → Shared → Prop} {s : Shared} {l : Addr} {its : Array Value} {Good : Heap → Addr → Prop} {Q : Value → Shared → Prop}
end
end CVT
namespace CVT
open PySem PySem.Spec PyProof.Rows L2 CV CVS
/-- how many unlike ones there are among the first i -/
def dG {α : Type} [DecidableEq α] (xs : List α) : Nat → Nat
  | 0 => 0
  | i + 1 => dG xs i + match xs[i]? with
    | some x => if x ∈ xs.take i then 0 else 1
    | none => 0
/-- what the set has got from the first i items -/
structure GotK (ks : List (Addr × NK)) (i : Nat) (L : List (Addr × NK)) : Prop where
  sub : ∀ p ∈ L, p ∈ ks
  all : ∀ k, k ∈ L.map (·.2) ↔ k ∈ (ks.map (·.2)).take i
  len : L.length = dG (ks.map (·.2)) i
end CVT
namespace CV
noncomputable section
open PySem L2 PySem.Spec PyProof.Rows CVS CVT
/-! ### len(set(xs)), xs a list of tuples -/
def NK.isTup : NK → Bool
  | .tup _ => true
  | _ => false
def setOkK (ks : List NK) : Bool := ks.all fun k => NK.ok k && NK.isTup k
def gLenSetK : D → Option D
  | .lst _ ds => (nksOf ds).bind fun ks => if setOkK ks = true ∧ ks.length < 64 then some (.int ((dG ks ks.length : Nat) : Int)) else none
  | _ => none
def fLenSetK (fa : FP) : FP := fun env => (fa env).bind fun d => .of (gLenSetK d)
theorem fLenSetK_e (fa : FP) (env : Env) : fLenSetK fa env = (fa env).bind fun d => .of (gLenSetK d) := rfl
section
variable {c : Cn} {W : WX} {ta : TE} {fa : FP}
end
/-! of sheets -/
end
end CV
namespace CV
noncomputable section
open PySem L2 PySem.Spec PyProof.Rows
/-! ### {} == {} -/
variable {c : Cn}
end
end CV
namespace CV
open PySem L2
local macro_rules | `(tactic| walk_at "ex") => `(tactic| simp (config := { maxSteps := 1000000 }) only [fForM_e, fForO_e, fInG_e, fExtend_e, fCallZ_e, fRetT_e, retTR_ok, fmNil_e, fmCons_e, fmMv_e, fNever_e, fRaise0_e, fRaise1_e, fTry_e, tryR_nx, tryR_ret, tryR_exc, fIsE_e, fXf_e, fFz_e, fLRev_e, fLRevL_e, fStore2_e, fDisp_e, fpNil_e, fpCons_e, keyOf1_i, keyOf1_s, gIsi_dct, kit_dict_str, kit_dict_int, kit_dict_bool, kit_dict_list, kit_dict_tuple, fFrzS_e, frzE_nil, frzE_cons, frzs_strs, gListX_d, gListX_t, gListX_l, gListX_r, gInt_i, gInt_b, Int.cast_ofNat_Int, Int.reduceEq, flat, frzs, fSeq_e, fNext_e, fSet_e, fSetZ_e, fDrop_e, fRet_e, fRetV_e, fRetN_e, fIfS_e, fBreak_e, fCont_e, fStore_e, fMut0_e, fC_e, fVar_e, fVarB_e, fClo_e, fOp_e, fAnd_e, fOr_e, fNot_e, fIf_e, fBool_e, fNeg_e, ftB_e, ftNot_e, ftAnd_e, ftOr_e, ftYes_e, fNil_e, fCons_e, fApp_e, fChain_e, fCall_e, fIsi_e, fM1_e, fM0_e, fSl_e, foN_e, foS_e, fAsg_e, fgName_e, fgNil_e, fgCons_e, fgTup_e, fGet2_e, fiSq_e, fiEnum_e, fiRev_e, fFor_e, fWipe_e, fPre_e, fLc_e, wipeE_nil, wipeE_cons, fDef_e, az_fold, cell_fold, frz_cell, clo_cell', fAppend_e', fiRng1_e', R.seq_assoc, out_ret, out_nx, out_exc, Option.bind_some,
  O.bind_ok, O.bind_exc, O.bind_bad, O.st_ok, O.st_exc, O.st_bad, O.of_some, O.of_none, O.nox_ok, R.seq_nx, R.seq_ret, R.seq_brk, R.seq_cnt, R.seq_exc, R.seq_bad, R.wipe_nx, R.wipe_cnt, R.wipe_brk, R.wipe_ret, R.wipe_exc, R.wipe_bad,
  List.set_cons_zero, List.set_cons_succ, List.getElem?_cons_zero, List.getElem?_cons_succ, List.map_cons, List.map_nil, List.cons_append, List.nil_append, List.replicate_succ, List.replicate_zero, List.length_cons, List.length_nil, Nat.sub_self, Nat.zero_add, Nat.reduceAdd, Nat.reduceSub, Nat.reduceEqDiff, List.append_nil,
  clo, clos, Bool.true_and, Bool.and_true, Bool.not_true, Bool.not_false, Bool.false_and, Bool.and_false, Bool.true_or, Bool.or_true, Bool.false_or, Bool.or_false, if_true, if_false, Bool.false_eq_true, ite_true, ite_false, eq_self_iff_true, decide_true, decide_false, Option.bind_some, Option.map_some, Option.bind_none, Option.map_none, reduceIte, reduceCtorEq,
  gI, gB, gEq_int, gNe_int, gIsi_non, gIsi_bl, gIsi_int, gIsi_str, gIsi_tup, gIsi_lst, kit_eq, kit_NoneType_str, kit_NoneType_int, kit_NoneType_bool, kit_NoneType_tuple, kit_NoneType_list, kit_bool_str, kit_bool_int, kit_bool_tuple, kit_bool_list, kit_int_str, kit_int_bool, kit_int_tuple, kit_int_list, kit_str_int, kit_str_bool, kit_str_tuple, kit_str_list, kit_tuple_str, kit_tuple_int, kit_tuple_bool, kit_tuple_list, kit_list_str, kit_list_int, kit_list_bool, kit_list_tuple, frz, gLen_tup, gLen_lst, gLen_ro, gIx2_tup, gIx2_lst, gIx2_ro, gAdd_int, atI_cast, atI_0', atI_1', atI_2', atI_3', itemsOf_str, List.length_map, List.getElem?_map, clos_strs, clos_ints, clos_bls, clos_signs, gIn2_sign, gNotIn2_sign, gIs_non, gIsNot_non, gMul_l2, gMul_r2, gMul_l3, gMul_l5, gMul_r10, gMul_r12, gMul_r60, gMul_r61, gMul_r16807, gMul_r39373, gMul_r48271, gMul_r69621, gMul_r982451653, gDiv_2, gDiv_3, gDiv_4, gDiv_5, gDiv_6, gDiv_7, gDiv_8, gDiv_9, gDiv_10, gDiv_11, gDiv_12, gDiv_14, gDiv_15, gDiv_16, gDiv_17, gDiv_18, gDiv_20, gDiv_21, gDiv_24, gDiv_26, gDiv_27, gDiv_30, gDiv_32, gDiv_33, gDiv_36, gDiv_40, gDiv_49, gDiv_52, gDiv_54, gDiv_60, gDiv_64, gDiv_77, gDiv_78, gDiv_81, gDiv_82, gDiv_90, gDiv_108, gDiv_156, gDiv_160, gDiv_162, gDiv_200, gDiv_234, gDiv_240, gDiv_270, gDiv_300, gDiv_343, gDiv_800, gDiv_832, gDiv_900, gDiv_960, gDiv_2400, gDiv_2401, gDiv_7000, gDiv_7020, gMod_2, gMod_3, gMod_4, gMod_5, gMod_6, gMod_7, gMod_8, gMod_9, gMod_10, gMod_11, gMod_12, gMod_16, gMod_17, gMod_19, gMod_24, gMod_25, gMod_26, gMod_28, gMod_30, gMod_32, gMod_40, gMod_60, gMod_64, gMod_81, gMod_900, gMod_1000, gMod_2147483587, gMod_2147483629, gMod_2147483646, gMod_2147483647, gTup_ok, gLst_ok, Nat.reduceLT, Nat.reduceLeDiff, Int.ofNat_lt, Int.ofNat_le, Int.ofNat_inj, decide_eq_true_eq, not_false_eq_true, not_true_eq_false, ite_not, and_true, true_and, and_false, false_and, or_true, true_or, or_false, false_or, Bool.not_eq_true', Bool.not_eq_true, Bool.not_eq_false', decide_eq_false_iff_not, Bool.not_not])
local macro_rules | `(tactic| walk_at "exs") => `(tactic| simp (config := { maxSteps := 1000000 }) only [fForM_e, fForO_e, fInG_e, fExtend_e, fCallZ_e, fRetT_e, retTR_ok, fmNil_e, fmCons_e, fmMv_e, fNever_e, fRaise0_e, fRaise1_e, fTry_e, tryR_nx, tryR_ret, tryR_exc, fIsE_e, fXf_e, fFz_e, fLRev_e, fLRevL_e, fStore2_e, fDisp_e, fpNil_e, fpCons_e, keyOf1_i, keyOf1_s, gIsi_dct, kit_dict_str, kit_dict_int, kit_dict_bool, kit_dict_list, kit_dict_tuple, fFrzS_e, frzE_nil, frzE_cons, frzs_strs, gListX_d, gListX_t, gListX_l, gListX_r, gInt_i, gInt_b, Int.cast_ofNat_Int, Int.reduceEq, flat, frzs, fSeq_e, fNext_e, fSet_e, fSetZ_e, fDrop_e, fRet_e, fRetV_e, fRetN_e, fIfS_e, fBreak_e, fCont_e, fStore_e, fMut0_e, fC_e, fVar_e, fVarB_e, fClo_e, fOp_e, fAnd_e, fOr_e, fNot_e, fIf_e, fBool_e, fNeg_e, ftB_e, ftNot_e, ftAnd_e, ftOr_e, ftYes_e, fNil_e, fCons_e, fApp_e, fChain_e, fCall_e, fIsi_e, fM1_e, fM0_e, fSl_e, foN_e, foS_e, fAsg_e, fgName_e, fgNil_e, fgCons_e, fgTup_e, fGet2_e, fiSq_e, fiEnum_e, fiRev_e, fFor_e, fWipe_e, fPre_e, fLc_e, wipeE_nil, wipeE_cons, fDef_e, az_fold, cell_fold, frz_cell, clo_cell', fAppend_e', fiRng1_e', R.seq_assoc, out_ret, out_nx, out_exc, Option.bind_some,
  O.bind_ok, O.bind_exc, O.bind_bad, O.st_ok, O.st_exc, O.st_bad, O.of_some, O.of_none, O.nox_ok, R.seq_nx, R.seq_ret, R.seq_brk, R.seq_cnt, R.seq_exc, R.seq_bad, R.wipe_nx, R.wipe_cnt, R.wipe_brk, R.wipe_ret, R.wipe_exc, R.wipe_bad,
  List.set_cons_zero, List.set_cons_succ, List.getElem?_cons_zero, List.getElem?_cons_succ, List.map_cons, List.map_nil, List.cons_append, List.nil_append, List.replicate_succ, List.replicate_zero, List.length_cons, List.length_nil, Nat.sub_self, Nat.zero_add, Nat.reduceAdd, Nat.reduceSub, Nat.reduceEqDiff, List.append_nil,
  clo, clos, Bool.true_and, Bool.and_true, Bool.not_true, Bool.not_false, Bool.false_and, Bool.and_false, Bool.true_or, Bool.or_true, Bool.false_or, Bool.or_false, if_true, if_false, Bool.false_eq_true, ite_true, ite_false, eq_self_iff_true, decide_true, decide_false, Option.bind_some, Option.map_some, Option.bind_none, Option.map_none, reduceIte, reduceCtorEq,
  gI, gB, gEq_int, gNe_int, gIsi_non, gIsi_bl, gIsi_int, gIsi_str, gIsi_tup, gIsi_lst, kit_eq, kit_NoneType_str, kit_NoneType_int, kit_NoneType_bool, kit_NoneType_tuple, kit_NoneType_list, kit_bool_str, kit_bool_int, kit_bool_tuple, kit_bool_list, kit_int_str, kit_int_bool, kit_int_tuple, kit_int_list, kit_str_int, kit_str_bool, kit_str_tuple, kit_str_list, kit_tuple_str, kit_tuple_int, kit_tuple_bool, kit_tuple_list, kit_list_str, kit_list_int, kit_list_bool, kit_list_tuple, frz, gLen_tup, gLen_lst, gLen_ro, gIx2_tup, gIx2_lst, gIx2_ro, gAdd_int, atI_cast, atI_0', atI_1', atI_2', atI_3', itemsOf_str, List.length_map, List.getElem?_map, clos_strs, clos_ints, clos_bls, clos_signs, gIn2_sign, gNotIn2_sign, gIs_non, gIsNot_non, gMul_l2, gMul_r2, gMul_l3, gMul_l5, gMul_r10, gMul_r12, gMul_r60, gMul_r61, gMul_r16807, gMul_r39373, gMul_r48271, gMul_r69621, gMul_r982451653, gDiv_2, gDiv_3, gDiv_4, gDiv_5, gDiv_6, gDiv_7, gDiv_8, gDiv_9, gDiv_10, gDiv_11, gDiv_12, gDiv_14, gDiv_15, gDiv_16, gDiv_17, gDiv_18, gDiv_20, gDiv_21, gDiv_24, gDiv_26, gDiv_27, gDiv_30, gDiv_32, gDiv_33, gDiv_36, gDiv_40, gDiv_49, gDiv_52, gDiv_54, gDiv_60, gDiv_64, gDiv_77, gDiv_78, gDiv_81, gDiv_82, gDiv_90, gDiv_108, gDiv_156, gDiv_160, gDiv_162, gDiv_200, gDiv_234, gDiv_240, gDiv_270, gDiv_300, gDiv_343, gDiv_800, gDiv_832, gDiv_900, gDiv_960, gDiv_2400, gDiv_2401, gDiv_7000, gDiv_7020, gMod_2, gMod_3, gMod_4, gMod_5, gMod_6, gMod_7, gMod_8, gMod_9, gMod_10, gMod_11, gMod_12, gMod_16, gMod_17, gMod_19, gMod_24, gMod_25, gMod_26, gMod_28, gMod_30, gMod_32, gMod_40, gMod_60, gMod_64, gMod_81, gMod_900, gMod_1000, gMod_2147483587, gMod_2147483629, gMod_2147483646, gMod_2147483647, gTup_ok, gLst_ok, Nat.reduceLT, Nat.reduceLeDiff, Int.ofNat_lt, Int.ofNat_le, Int.ofNat_inj, decide_eq_true_eq, not_false_eq_true, not_true_eq_false, ite_not, and_true, true_and, and_false, false_and, or_true, true_or, or_false, false_or, Bool.not_eq_true', Bool.not_eq_true, Bool.not_eq_false', decide_eq_false_iff_not, Bool.not_not, *])
noncomputable def b__law_cell_at : FS :=
    fSeq (fIfS (ftB (fOp (gB fun i j => decide (i < j)) (fVar 1) (fApp gLen (fCons (fVar 0) (fNil))))) (fSeq (fRet (fClo (fOp gIx2 (fVar 0) (fVar 1))))
    (fNext)) (fNext))
    (fSeq (fRet (fC (.int 0)))
    (fNext))
noncomputable def F__law_cell_at : List D → O D := fDef 2 2 b__law_cell_at
def cellAt (ns : List Int) (k : Nat) : Int := (ns[k]?).getD 0
theorem F_cell (ns : List Int) (k : Nat) : F__law_cell_at [.ro (ns.map D.int), .int (k : Int)] = .ok (.int (cellAt ns k)) := by
  unfold F__law_cell_at b__law_cell_at cellAt
  by_cases h : k < ns.length
  · have e : ns[k]? = some ns[k] := List.getElem?_eq_getElem h
    walk_at "exs"
    rfl
  · have e : ns[k]? = none := List.getElem?_eq_none (by omega)
    walk_at "exs"
    rfl
theorem F_cell0 (ns : List Int) : F__law_cell_at [.ro (ns.map D.int), .int 0] = .ok (.int (cellAt ns 0)) := F_cell ns 0
/-! ### the letters, the signs of a sheet -/
def signs : List Nat := [35, 46, 97, 98, 99, 100, 101, 102, 103, 104, 105, 106, 107, 108, 109, 110, 111, 112, 113, 114, 115, 116, 117, 118, 119, 120, 121, 122]
structure Sheet (L : List (List Nat)) (h w : Nat) : Prop where
  len : L.length = h
  h1 : 1 ≤ h
  h9 : h ≤ 9
  w1 : 1 ≤ w
  w9 : w ≤ 9
  wid : ∀ l ∈ L, l.length = w
  sg : ∀ l ∈ L, ∀ a ∈ l, a ∈ signs
/-! ### cells -/
@[simp] theorem clo_cell (p : Nat × Nat) : clo (cellD p) = true := rfl
@[simp] theorem clos_cells (l : List (Nat × Nat)) : clos (l.map cellD) = true := clos_map (fun _ => rfl) l
def sgn (L : List (List Nat)) (i j : Nat) : Nat := (L.getD i []).getD j 35
def rowCells (p : Nat → Bool) (i : Nat) (l : List Nat) : List (Nat × Nat) := ((List.range l.length).filter fun j => p (l.getD j 35)).map fun j => (i, j)
def cellsWhere (p : Nat → Bool) (L : List (List Nat)) : List (Nat × Nat) := (List.range L.length).flatMap fun i => rowCells p i (L.getD i [])
/-- the cells ahead of one -/
def aheadOf (p : Nat → Bool) (L : List (List Nat)) (i j : Nat) : List (Nat × Nat) := ((List.range i).flatMap fun i => rowCells p i (L.getD i [])) ++ (((List.range j).filter fun j => p ((L.getD i []).getD j 35)).map fun j => (i, j))
theorem rowCells_len (p : Nat → Bool) (i : Nat) (l : List Nat) : (rowCells p i l).length ≤ l.length := by
  unfold rowCells
  rw [List.length_map]
  exact Nat.le_trans (List.length_filter_le _ _) (by simp)
theorem flat_len (p : Nat → Bool) {L : List (List Nat)} {w : Nat} (hw : ∀ l ∈ L, l.length = w) : ∀ k, k ≤ L.length → ((List.range k).flatMap fun i => rowCells p i (L.getD i [])).length ≤ k * w
  | 0, _ => by simp
  | k + 1, hk => by
    rw [List.range_succ, List.flatMap_append, List.length_append, Nat.succ_mul]
    have ih := flat_len p hw k (by omega)
    have e : (L.getD k []).length = w := hw _ (by
      rw [List.getD_eq_getElem?_getD, List.getElem?_eq_getElem (by omega)]
      exact List.getElem_mem _)
    have h2 := rowCells_len p k (L.getD k [])
    simp only [List.flatMap_cons, List.flatMap_nil, List.append_nil]
    omega
theorem Sheet.getD {L : List (List Nat)} {h w i : Nat} (s : Sheet L h w) (hi : i < h) : L[i]? = some (L.getD i []) ∧ (L.getD i []).length = w ∧ ∀ a ∈ L.getD i [], a ∈ signs := by
  have hl := s.len
  have e : L[i]? = some (L.getD i []) := by
    rw [List.getD_eq_getElem?_getD, List.getElem?_eq_getElem (by omega)]
    rfl
  have m := List.mem_of_getElem? e
  exact ⟨e, s.wid _ m, s.sg _ m⟩
theorem Sheet.sgn {L : List (List Nat)} {h w i j : Nat} (s : Sheet L h w) (hi : i < h) (hj : j < w) : (L.getD i [])[j]? = some (sgn L i j) ∧ CV.sgn L i j ∈ signs := by
  obtain ⟨e, hl, hs⟩ := s.getD hi
  have e2 : (L.getD i [])[j]? = some (CV.sgn L i j) := by
    unfold CV.sgn
    rw [List.getD_eq_getElem?_getD (l := L.getD i []), List.getElem?_eq_getElem (by omega)]
    rfl
  exact ⟨e2, hs _ (List.mem_of_getElem? e2)⟩
theorem Sheet.cells {L : List (List Nat)} {h w : Nat} (s : Sheet L h w) (p : Nat → Bool) : (cellsWhere p L).length ≤ 81 := by
  have z := flat_len p s.wid L.length (Nat.le_refl _)
  have z2 : L.length * w ≤ 9 * 9 := Nat.mul_le_mul (by rw [s.len]; exact s.h9) s.w9
  unfold cellsWhere
  omega
theorem Sheet.ahead {L : List (List Nat)} {h w i j : Nat} (s : Sheet L h w) (p : Nat → Bool) (hi : i ≤ h) (hj : j ≤ 9) : (aheadOf p L i j).length ≤ 90 := by
  unfold aheadOf
  have z := flat_len p s.wid i (by rw [s.len]; exact hi)
  have z2 : i * w ≤ 9 * 9 := Nat.mul_le_mul (Nat.le_trans hi s.h9) s.w9
  have z3 := List.length_filter_le (fun j => p ((L.getD i []).getD j 35)) (List.range j)
  rw [List.length_append, List.length_map]
  rw [List.length_range] at z3
  omega
/-! ### the rows of a sheet -/
def inC (cs : List (Nat × Nat)) (a b : Int) : Bool := cs.any fun c => decide ((c.1 : Int) = a ∧ (c.2 : Int) = b)
def stepC (s c : Nat × Nat) (i : Nat) : Nat × Nat := (c.1 + i * s.1, c.2 + i * s.2)
def runN (cs : List (Nat × Nat)) (s : Nat × Nat) : Nat → Nat × Nat → Nat
  | 0, _ => 0
  | k + 1, c => if c ∈ cs then runN cs s k (c.1 + s.1, c.2 + s.2) + 1 else 0
def Small (cs : List (Nat × Nat)) : Prop := ∀ p ∈ cs, p.1 < 9 ∧ p.2 < 9
def run (cs : List (Nat × Nat)) (s c : Nat × Nat) : List (Nat × Nat) := (List.range (runN cs s 10 c)).map (stepC s c)
def begunC (cs : List (Nat × Nat)) (s c : Nat × Nat) : List (Nat × Nat) := if inC cs ((c.1 : Int) - (s.1 : Int)) ((c.2 : Int) - (s.2 : Int)) = true then [] else run cs s c
def big (cs : List (Nat × Nat)) (s c : Nat × Nat) : Bool := decide (1 < (begunC cs s c).length)
/-! joined -/
/-! ### loops that end with an answer -/
/-! ### cells by place -/
/-! ### a sheet by a function -/
/-! two sheets of one floor -/
/-! the rows, with their ways -/
def wrongP (A B : List (List Nat)) (i j : Nat) : Bool := decide (sgn B i j ≠ 35 ∧ sgn B i j ≠ 46 ∧ sgn B i j ≠ sgn A i j)
/-! the two sheets of the law -/
theorem gJoin_strs (o : Bool) (s : List Nat) (ls : List (List Nat)) (h : (ls.map (·.length)).sum + ls.length * s.length ≤ 16777216) : gJoin (.str s) (.lst o (ls.map D.str)) = some (.str (joinL s ls)) := by
  show ((seqOf (.lst o (ls.map D.str))).bind fun ds => (strsOf ds).bind fun ls => @ite _ ((ls.map (·.length)).sum + ls.length * s.length ≤ 16777216) (Classical.propDecidable _) (some (D.str (joinL s ls))) none) = _
  rw [seqOf_lst, Option.bind_some, strsOf_map, Option.bind_some, if_pos h]
/-- a sign of the shown text -/
def shS (A B : List (List Nat)) (i j : Nat) : Nat := if wrongP A B i j = true then sgn B i j - 32 else sgn B i j
def shL (A B : List (List Nat)) (h w : Nat) : List (List Nat) := (List.range h).map fun i => (List.range w).map (shS A B i)
/-! ### slices, texts split and joined, loops that end at a first item -/
theorem gSl_lstto {o : Bool} {ds : List D} {k : Nat} (h : clos ds = true) : gSl (.lst o ds) none (some (k : Int)) = some (.lst true (ds.take k)) := by
  show (if clos ds = true then some (D.lst true (cutL ds none (some (k : Int)))) else none) = _
  rw [if_pos h, cutL_to]
theorem gSl_lstfrom {o : Bool} {ds : List D} {k : Nat} (h : clos ds = true) : gSl (.lst o ds) (some (k : Int)) none = some (.lst true (ds.drop k)) := by
  show (if clos ds = true then some (D.lst true (cutL ds (some (k : Int)) none)) else none) = _
  rw [if_pos h, cutL_from]
theorem gSl_strto {l : List Nat} {k : Nat} (h : l.length ≤ 16777216) : gSl (.str l) none (some (k : Int)) = some (.str (l.take k)) := by
  show (@ite _ (l.length ≤ 16777216) (Classical.propDecidable _) (some (D.str (cutL l none (some (k : Int))))) none) = _
  rw [if_pos h, cutL_to]
theorem joinL_mem {s : List Nat} {c : Nat} : ∀ {ls : List (List Nat)}, c ∈ joinL s ls → c ∈ s ∨ ∃ l ∈ ls, c ∈ l
  | [], h => by simp [joinL] at h
  | [x], h => .inr ⟨x, by simp, h⟩
  | x :: y :: r, h => by
    unfold joinL at h
    rcases List.mem_append.mp h with h | h
    · rcases List.mem_append.mp h with h | h
      · exact .inr ⟨x, by simp, h⟩
      · exact .inl h
    · rcases joinL_mem h with h | ⟨l, hl, h⟩
      · exact .inl h
      · exact .inr ⟨l, by simp only [List.mem_cons] at hl ⊢; exact .inr hl, h⟩
theorem gSplit_join {ls : List (List Nat)} (hne : ls ≠ []) (h : ∀ l ∈ ls, 10 ∉ l) (hz : (joinL [10] ls).length + 2 ≤ 16777216) : gSplit (.str (joinL [10] ls)) (.str [10]) = some (.lst true (ls.map D.str)) := by
  show (@ite _ (([10] : List Nat) ≠ [] ∧ (joinL [10] ls).length + 2 ≤ 16777216) (Classical.propDecidable _) (some (D.lst true ((Txt.split (S (joinL [10] ls)) (S [10])).map fun z => D.str z.cps.toList))) none) = _
  rw [if_pos ⟨by simp, hz⟩, split_joinL (by decide) hne h, List.map_map]
  congr 2
theorem least (p : Nat → Bool) : ∀ n, (∀ i, i < n → p i = true) ∨ ∃ i, i < n ∧ p i = false ∧ ∀ j, j < i → p j = true
  | 0 => .inl fun i h => by omega
  | n + 1 => by
    rcases least p n with h | ⟨i, h1, h2, h3⟩
    · cases hp : p n with
      | true =>
        refine .inl fun i hi => ?_
        by_cases e : i = n
        · rw [e]; exact hp
        · exact h i (by omega)
      | false => exact .inr ⟨n, by omega, hp, h⟩
    · exact .inr ⟨i, by omega, h2, h3⟩
/-- it ends with this -/
def R.stops (o : O D) : R → Prop
  | .ret d _ => o = .ok d
  | .exc x _ => o = .exc x
  | _ => False
/-! ### turned, agrees -/
/-! ### a floor drawn by the law -/
/-! ### open by place, on the sheet or beside it -/
/-! ### runs: each open cell is in just one -/
section
variable {cs : List (Nat × Nat)} {s : Nat × Nat}
end
/-! ### loops that look for a first item -/
/-! ### counts by cell -/
def addK (ks : List (Nat × Nat)) (c : Nat × Nat) : List (Nat × Nat) := if c ∈ ks then ks else ks ++ [c]
theorem addK_mem {ks : List (Nat × Nat)} {c d : Nat × Nat} : d ∈ addK ks c ↔ d ∈ ks ∨ d = c := by
  unfold addK
  split
  · rename_i h
    exact ⟨.inl, fun z => z.elim id fun e => by rw [e]; exact h⟩
  · simp
theorem addK_nodup {ks : List (Nat × Nat)} {c : Nat × Nat} (h : ks.Nodup) : (addK ks c).Nodup := by
  unfold addK
  split
  · exact h
  · rename_i hc
    rw [List.nodup_append]
    exact ⟨h, by simp, fun a ha b hb e => by
      rw [List.mem_singleton.mp hb] at e
      rw [e] at ha
      exact hc ha⟩
/-- keys of a count: each once, all of them cells -/
structure KeysOk (cs ks xs : List (Nat × Nat)) : Prop where
  nd : ks.Nodup
  all : ∀ c, c ∈ xs → c ∈ ks
  cs : ∀ c, c ∈ ks → c ∈ cs
theorem KeysOk.len {cs ks xs : List (Nat × Nat)} (k : KeysOk cs ks xs) : ks.length ≤ cs.length := by
  have : ∀ (ks cs : List (Nat × Nat)), ks.Nodup → (∀ c ∈ ks, c ∈ cs) → ks.length ≤ cs.length := fun ks => by
    induction ks with
    | nil => intro _ _ _; exact Nat.zero_le _
    | cons c ks ih =>
      intro cs nd h
      obtain ⟨n1, n2⟩ := List.nodup_cons.mp nd
      have hc := h c (by simp)
      have := ih (cs.erase c) n2 fun d hd => (List.mem_erase_of_ne (fun e => n1 (by rw [e] at hd; exact hd))).mpr (h d (by simp [hd]))
      rw [List.length_erase_of_mem hc] at this
      have := List.length_pos_of_mem hc
      rw [List.length_cons]; omega
  exact this ks cs k.nd k.cs
theorem KeysOk.add {cs ks xs : List (Nat × Nat)} {c : Nat × Nat} (k : KeysOk cs ks xs) (hc : c ∈ cs) : KeysOk cs (addK ks c) (xs ++ [c]) :=
  ⟨addK_nodup k.nd, fun d hd => addK_mem.mpr (by
    rcases List.mem_append.mp hd with h | h
    · exact .inl (k.all d h)
    · exact .inr (by simpa using h)), fun d hd => (addK_mem.mp hd).elim (k.cs d) fun e => by rw [e]; exact hc⟩
/-! ### need_floor -/
end CV
namespace CV
open PySem L2
local macro_rules | `(tactic| walk_at "ex") => `(tactic| simp (config := { maxSteps := 1000000 }) only [fDropM_e, fSetM_e, fRetM_e, fOpM_e, fIfM_e, ifR_tt, ifR_tf, ifR_ft, ifR_ff, fCallM_e, fMethM_e, fMeth_e, fFld_e, fplVar_e, fplFld_e, fplIx_e, fPl1_e', fStoreP_e', appR1_some, putPl_e, mutE_e, kindE_e, setP_nil, setP_w, setP_r, setP_b, setP_ix, OEst_ok, OEst_exc, OEst_bad, OEbd_ok, OEbd_exc, OEbd_bad, OMoe_ok, OMoe_exc, OMoe_bad, Ooe_ok, Ooe_exc, Ooe_bad, ooe_some, ooe_none, fDropClear_e, fLIndex_e, fBits_e, faNil_e, faCl_e, faIo_e, faVw_e, fMake_e, fFldSet_e, envM_t, envM_f, envM_n, endM_ret, endM_nx, endM_exc, iosOf_t, iosOf_f, iosOf_n, AR.k, AR.d, ioI, ioP, isLst, plIx_0, plIx_1, List.getD_cons_zero, List.getD_cons_succ, gFld_w, gFld_r, gFld_b, plFld_w, plFld_r, plFld_b, obj_has, obj_need, obj_words, obj_worth, obj_fitting, obj_put, obj_drop, obj_bits, fForM_e, fForO_e, fInG_e, fExtend_e', fCallZ_e, fRetT_e, retTR_ok, fmNil_e, fmCons_e, fmMv_e, fNever_e, fRaise0_e, fRaise1_e, fTry_e, tryR_nx, tryR_ret, tryR_exc, fIsE_e, fXf_e, fFz_e, fLRev_e, fLRevL_e, fStore2_e, fDisp_e, fpNil_e, fpCons_e, keyOf1_i, keyOf1_s, gIsi_dct, kit_dict_str, kit_dict_int, kit_dict_bool, kit_dict_list, kit_dict_tuple, fFrzS_e, frzE_nil, frzE_cons, frzs_strs, gListX_d, gListX_t, gListX_l, gListX_r, gInt_i, gInt_b, Int.cast_ofNat_Int, Int.reduceEq, flat, frzs, fSeq_e, fNext_e, fSet_e, fSetZ_e, fDrop_e, fRet_e, fRetV_e, fRetN_e, fIfS_e, fBreak_e, fCont_e, fStore_e, fMut0_e, fC_e, fVar_e, fVarB_e, fClo_e, fOp_e, fAnd_e, fOr_e, fNot_e, fIf_e, fBool_e, fNeg_e, ftB_e, ftNot_e, ftAnd_e, ftOr_e, ftYes_e, fNil_e, fCons_e, fApp_e, fChain_e, fCall_e, fIsi_e, fM1_e, fM0_e, fSl_e, foN_e, foS_e, fAsg_e, fPar_e, fgName_e, fgNil_e, fgCons_e, fgTup_e, fGet2_e, fiSq_e, fiEnum_e, fiZip_e, fiRng2_e, fiRev_e, fFor_e, fWipe_e, fPre_e, fLc_e, fLcO_e, wipeE_nil, wipeE_cons, fDef_e, az_fold, cell_fold, frz_cell, clo_cell', fAppend_e', fiRng1_e', R.seq_assoc, out_ret, out_nx, out_exc, Option.bind_some,
  O.bind_ok, O.bind_exc, O.bind_bad, O.st_ok, O.st_exc, O.st_bad, O.of_some, O.of_none, O.nox_ok, R.seq_nx, R.seq_ret, R.seq_brk, R.seq_cnt, R.seq_exc, R.seq_bad, R.wipe_nx, R.wipe_cnt, R.wipe_brk, R.wipe_ret, R.wipe_exc, R.wipe_bad,
  List.set_cons_zero, List.set_cons_succ, List.getElem?_cons_zero, List.getElem?_cons_succ, List.map_cons, List.map_nil, List.cons_append, List.nil_append, List.replicate_succ, List.replicate_zero, List.length_cons, List.length_nil, Nat.sub_self, Nat.zero_add, Nat.reduceAdd, Nat.reduceSub, Nat.reduceEqDiff, List.append_nil,
  clo, clos, Bool.true_and, Bool.and_true, Bool.not_true, Bool.not_false, Bool.false_and, Bool.and_false, Bool.true_or, Bool.or_true, Bool.false_or, Bool.or_false, if_true, if_false, Bool.false_eq_true, ite_true, ite_false, eq_self_iff_true, decide_true, decide_false, Option.bind_some, Option.map_some, Option.bind_none, Option.map_none, reduceIte, reduceCtorEq,
  gI, gB, gEq_int, gNe_int, gIsi_non, gIsi_bl, gIsi_int, gIsi_str, gIsi_tup, gIsi_lst, kit_eq, kit_NoneType_str, kit_NoneType_int, kit_NoneType_bool, kit_NoneType_tuple, kit_NoneType_list, kit_bool_str, kit_bool_int, kit_bool_tuple, kit_bool_list, kit_int_str, kit_int_bool, kit_int_tuple, kit_int_list, kit_str_int, kit_str_bool, kit_str_tuple, kit_str_list, kit_tuple_str, kit_tuple_int, kit_tuple_bool, kit_tuple_list, kit_list_str, kit_list_int, kit_list_bool, kit_list_tuple, frz, gLen_tup, gLen_lst, gLen_ro, gIx2_tup, gIx2_lst, gIx2_ro, gAdd_int, atI_cast, atI_0', atI_1', atI_2', atI_3', itemsOf_str, List.length_map, List.getElem?_map, clos_strs, clos_ints, clos_bls, clos_signs, gIn2_sign, gNotIn2_sign, gIs_non, gIsNot_non, gMul_l2, gMul_r2, gMul_l3, gMul_l5, gMul_r10, gMul_r12, gMul_r60, gMul_r61, gMul_r16807, gMul_r39373, gMul_r48271, gMul_r69621, gMul_r982451653, gDiv_2, gDiv_3, gDiv_4, gDiv_5, gDiv_6, gDiv_7, gDiv_8, gDiv_9, gDiv_10, gDiv_11, gDiv_12, gDiv_14, gDiv_15, gDiv_16, gDiv_17, gDiv_18, gDiv_20, gDiv_21, gDiv_24, gDiv_26, gDiv_27, gDiv_30, gDiv_32, gDiv_33, gDiv_36, gDiv_40, gDiv_49, gDiv_52, gDiv_54, gDiv_60, gDiv_64, gDiv_77, gDiv_78, gDiv_81, gDiv_82, gDiv_90, gDiv_108, gDiv_156, gDiv_160, gDiv_162, gDiv_200, gDiv_234, gDiv_240, gDiv_270, gDiv_300, gDiv_343, gDiv_800, gDiv_832, gDiv_900, gDiv_960, gDiv_2400, gDiv_2401, gDiv_7000, gDiv_7020, gMod_2, gMod_3, gMod_4, gMod_5, gMod_6, gMod_7, gMod_8, gMod_9, gMod_10, gMod_11, gMod_12, gMod_16, gMod_17, gMod_19, gMod_24, gMod_25, gMod_26, gMod_28, gMod_30, gMod_32, gMod_40, gMod_60, gMod_64, gMod_81, gMod_900, gMod_1000, gMod_2147483587, gMod_2147483629, gMod_2147483646, gMod_2147483647, gTup_ok, gLst_ok, Nat.reduceLT, Nat.reduceLeDiff, Int.ofNat_lt, Int.ofNat_le, Int.ofNat_inj, decide_eq_true_eq, not_false_eq_true, not_true_eq_false, ite_not, and_true, true_and, and_false, false_and, or_true, true_or, or_false, false_or, Bool.not_eq_true', Bool.not_eq_true, Bool.not_eq_false', decide_eq_false_iff_not, Bool.not_not])
local macro_rules | `(tactic| walk_at "exs") => `(tactic| simp (config := { maxSteps := 1000000 }) only [fDropM_e, fSetM_e, fRetM_e, fOpM_e, fIfM_e, ifR_tt, ifR_tf, ifR_ft, ifR_ff, fCallM_e, fMethM_e, fMeth_e, fFld_e, fplVar_e, fplFld_e, fplIx_e, fPl1_e', fStoreP_e', appR1_some, putPl_e, mutE_e, kindE_e, setP_nil, setP_w, setP_r, setP_b, setP_ix, OEst_ok, OEst_exc, OEst_bad, OEbd_ok, OEbd_exc, OEbd_bad, OMoe_ok, OMoe_exc, OMoe_bad, Ooe_ok, Ooe_exc, Ooe_bad, ooe_some, ooe_none, fDropClear_e, fLIndex_e, fBits_e, faNil_e, faCl_e, faIo_e, faVw_e, fMake_e, fFldSet_e, envM_t, envM_f, envM_n, endM_ret, endM_nx, endM_exc, iosOf_t, iosOf_f, iosOf_n, AR.k, AR.d, ioI, ioP, isLst, plIx_0, plIx_1, List.getD_cons_zero, List.getD_cons_succ, gFld_w, gFld_r, gFld_b, plFld_w, plFld_r, plFld_b, obj_has, obj_need, obj_words, obj_worth, obj_fitting, obj_put, obj_drop, obj_bits, fForM_e, fForO_e, fInG_e, fExtend_e', fCallZ_e, fRetT_e, retTR_ok, fmNil_e, fmCons_e, fmMv_e, fNever_e, fRaise0_e, fRaise1_e, fTry_e, tryR_nx, tryR_ret, tryR_exc, fIsE_e, fXf_e, fFz_e, fLRev_e, fLRevL_e, fStore2_e, fDisp_e, fpNil_e, fpCons_e, keyOf1_i, keyOf1_s, gIsi_dct, kit_dict_str, kit_dict_int, kit_dict_bool, kit_dict_list, kit_dict_tuple, fFrzS_e, frzE_nil, frzE_cons, frzs_strs, gListX_d, gListX_t, gListX_l, gListX_r, gInt_i, gInt_b, Int.cast_ofNat_Int, Int.reduceEq, flat, frzs, fSeq_e, fNext_e, fSet_e, fSetZ_e, fDrop_e, fRet_e, fRetV_e, fRetN_e, fIfS_e, fBreak_e, fCont_e, fStore_e, fMut0_e, fC_e, fVar_e, fVarB_e, fClo_e, fOp_e, fAnd_e, fOr_e, fNot_e, fIf_e, fBool_e, fNeg_e, ftB_e, ftNot_e, ftAnd_e, ftOr_e, ftYes_e, fNil_e, fCons_e, fApp_e, fChain_e, fCall_e, fIsi_e, fM1_e, fM0_e, fSl_e, foN_e, foS_e, fAsg_e, fPar_e, fgName_e, fgNil_e, fgCons_e, fgTup_e, fGet2_e, fiSq_e, fiEnum_e, fiZip_e, fiRng2_e, fiRev_e, fFor_e, fWipe_e, fPre_e, fLc_e, fLcO_e, wipeE_nil, wipeE_cons, fDef_e, az_fold, cell_fold, frz_cell, clo_cell', fAppend_e', fiRng1_e', R.seq_assoc, out_ret, out_nx, out_exc, Option.bind_some,
  O.bind_ok, O.bind_exc, O.bind_bad, O.st_ok, O.st_exc, O.st_bad, O.of_some, O.of_none, O.nox_ok, R.seq_nx, R.seq_ret, R.seq_brk, R.seq_cnt, R.seq_exc, R.seq_bad, R.wipe_nx, R.wipe_cnt, R.wipe_brk, R.wipe_ret, R.wipe_exc, R.wipe_bad,
  List.set_cons_zero, List.set_cons_succ, List.getElem?_cons_zero, List.getElem?_cons_succ, List.map_cons, List.map_nil, List.cons_append, List.nil_append, List.replicate_succ, List.replicate_zero, List.length_cons, List.length_nil, Nat.sub_self, Nat.zero_add, Nat.reduceAdd, Nat.reduceSub, Nat.reduceEqDiff, List.append_nil,
  clo, clos, Bool.true_and, Bool.and_true, Bool.not_true, Bool.not_false, Bool.false_and, Bool.and_false, Bool.true_or, Bool.or_true, Bool.false_or, Bool.or_false, if_true, if_false, Bool.false_eq_true, ite_true, ite_false, eq_self_iff_true, decide_true, decide_false, Option.bind_some, Option.map_some, Option.bind_none, Option.map_none, reduceIte, reduceCtorEq,
  gI, gB, gEq_int, gNe_int, gIsi_non, gIsi_bl, gIsi_int, gIsi_str, gIsi_tup, gIsi_lst, kit_eq, kit_NoneType_str, kit_NoneType_int, kit_NoneType_bool, kit_NoneType_tuple, kit_NoneType_list, kit_bool_str, kit_bool_int, kit_bool_tuple, kit_bool_list, kit_int_str, kit_int_bool, kit_int_tuple, kit_int_list, kit_str_int, kit_str_bool, kit_str_tuple, kit_str_list, kit_tuple_str, kit_tuple_int, kit_tuple_bool, kit_tuple_list, kit_list_str, kit_list_int, kit_list_bool, kit_list_tuple, frz, gLen_tup, gLen_lst, gLen_ro, gIx2_tup, gIx2_lst, gIx2_ro, gAdd_int, atI_cast, atI_0', atI_1', atI_2', atI_3', itemsOf_str, List.length_map, List.getElem?_map, clos_strs, clos_ints, clos_bls, clos_signs, gIn2_sign, gNotIn2_sign, gIs_non, gIsNot_non, gMul_l2, gMul_r2, gMul_l3, gMul_l5, gMul_r10, gMul_r12, gMul_r60, gMul_r61, gMul_r16807, gMul_r39373, gMul_r48271, gMul_r69621, gMul_r982451653, gDiv_2, gDiv_3, gDiv_4, gDiv_5, gDiv_6, gDiv_7, gDiv_8, gDiv_9, gDiv_10, gDiv_11, gDiv_12, gDiv_14, gDiv_15, gDiv_16, gDiv_17, gDiv_18, gDiv_20, gDiv_21, gDiv_24, gDiv_26, gDiv_27, gDiv_30, gDiv_32, gDiv_33, gDiv_36, gDiv_40, gDiv_49, gDiv_52, gDiv_54, gDiv_60, gDiv_64, gDiv_77, gDiv_78, gDiv_81, gDiv_82, gDiv_90, gDiv_108, gDiv_156, gDiv_160, gDiv_162, gDiv_200, gDiv_234, gDiv_240, gDiv_270, gDiv_300, gDiv_343, gDiv_800, gDiv_832, gDiv_900, gDiv_960, gDiv_2400, gDiv_2401, gDiv_7000, gDiv_7020, gMod_2, gMod_3, gMod_4, gMod_5, gMod_6, gMod_7, gMod_8, gMod_9, gMod_10, gMod_11, gMod_12, gMod_16, gMod_17, gMod_19, gMod_24, gMod_25, gMod_26, gMod_28, gMod_30, gMod_32, gMod_40, gMod_60, gMod_64, gMod_81, gMod_900, gMod_1000, gMod_2147483587, gMod_2147483629, gMod_2147483646, gMod_2147483647, gTup_ok, gLst_ok, Nat.reduceLT, Nat.reduceLeDiff, Int.ofNat_lt, Int.ofNat_le, Int.ofNat_inj, decide_eq_true_eq, not_false_eq_true, not_true_eq_false, ite_not, and_true, true_and, and_false, false_and, or_true, true_or, or_false, false_or, Bool.not_eq_true', Bool.not_eq_true, Bool.not_eq_false', decide_eq_false_iff_not, Bool.not_not, *])
noncomputable def b_Book_words : FS :=
    fSeq (fRet (fApp gSortS (fCons (fFld "Book" "worths" (fVar 0)) (fNil))))
    (fNext)
noncomputable def F_Book_words : List D → O D := fDef 1 1 b_Book_words
noncomputable def b_Book_has : FS :=
    fSeq (fRet (fOp gIn2 (fVar 1) (fFld "Book" "worths" (fVar 0))))
    (fNext)
noncomputable def F_Book_has : List D → O D := fDef 2 2 b_Book_has
noncomputable def b_is_word : FS :=
    fSeq (fIfS (ftOr (ftNot (ftB (fIsi "str" (fVar 0)))) (ftNot (ftB (fChain (gB fun i j => decide (i ≤ j)) (gB fun i j => decide (i ≤ j)) (fC (.int 2)) (fClo (fApp gLen (fCons (fVar 0) (fNil)))) (fC (.int 9)))))) (fSeq (fRet (fC (.bl false)))
    (fNext)) (fNext))
    (fSeq (fRet (fApp gAll (fCons (fLc (fiSq (fVarB 0)) (fgName 1) (ftYes) (fOp gIn2 (fVar 1) (fC (.str [97, 98, 99, 100, 101, 102, 103, 104, 105, 106, 107, 108, 109, 110, 111, 112, 113, 114, 115, 116, 117, 118, 119, 120, 121, 122]))) [1]) (fNil))))
    (fNext))
noncomputable def F_is_word : List D → O D := fDef 1 2 b_is_word
noncomputable def b_Book_need : FS :=
    fSeq (fIfS (ftNot (ftB (fCall F_is_word (fCons (fVar 1) (fNil))))) (fSeq (fRaise1 "NoWord" "word" (fVar 1))
    (fNext)) (fNext))
    (fSeq (fIfS (ftB (fOp gNotIn2 (fVar 1) (fFld "Book" "worths" (fVar 0)))) (fSeq (fRaise1 "NotThere" "word" (fVar 1))
    (fNext)) (fNext))
    (fNext))
noncomputable def F_Book_need : List D → O D := fDef 2 2 b_Book_need
noncomputable def b_Book_worth : FS :=
    fSeq (fDrop (fMeth "Book" "need" F_Book_need [] (fVar 0) (fCons (fVar 1) (fNil))))
    (fSeq (fRet (fClo (fOp gIx2 (fFld "Book" "worths" (fVar 0)) (fVar 1))))
    (fNext))
noncomputable def F_Book_worth : List D → O D := fDef 2 2 b_Book_worth
noncomputable def b_Book_turn_bits : FS :=
    fSeq (fSet 3 (fOp gShl (fC (.int 1)) (fVar 2)))
    (fSeq (fStoreP (fplFld "Book" "bits" (fplVar 0)) (fApp gLen (fCons (fVar 1) (fNil))) (fOp (gI Builtin.bitXor) (fGet2 (fFld "Book" "bits" (fVar 0)) (fApp gLen (fCons (fVar 1) (fNil))) (fC (.int 0))) (fVar 3)))
    (fSeq (fPre [4, 5, 6] (fFor (fiEnum (fVarB 1)) (fgTup 2 (fgCons (fgName 4) (fgCons (fgName 5) (fgNil)))) (fWipe [4, 5, 6] (fSeq (fSetZ 6 (fApp gTup' (fCons (fApp gLen (fCons (fVar 1) (fNil))) (fCons (fClo (fVar 4)) (fCons (fClo (fVar 5)) (fNil))))))
    (fSeq (fStoreP (fplFld "Book" "bits" (fplVar 0)) (fVar 6) (fOp (gI Builtin.bitXor) (fGet2 (fFld "Book" "bits" (fVar 0)) (fVar 6) (fC (.int 0))) (fVar 3)))
    (fNext))))))
    (fNext)))
noncomputable def F_Book_turn_bits : List D → OM := fDefM [true, false, false] 7 b_Book_turn_bits
noncomputable def b_Book_put : FS :=
    fSeq (fIfS (ftNot (ftB (fCall F_is_word (fCons (fVar 1) (fNil))))) (fSeq (fRaise1 "NoWord" "word" (fVar 1))
    (fNext)) (fNext))
    (fSeq (fIfS (ftB (fOp gIn2 (fVar 1) (fFld "Book" "worths" (fVar 0)))) (fSeq (fRaise1 "Twice" "word" (fVar 1))
    (fNext)) (fNext))
    (fSeq (fStoreP (fplFld "Book" "worths" (fplVar 0)) (fVar 1) (fVar 2))
    (fSeq (fDropM (fMethM "Book" "turn_bits" [true, false, false] F_Book_turn_bits [] (fplVar 0) (faCl (fVar 1) (faCl (fApp gLen (fCons (fFld "Book" "row" (fVar 0)) (fNil))) (faNil)))))
    (fSeq (fPl1 isLst gAppP (fplFld "Book" "row" (fplVar 0)) (fVar 1))
    (fNext)))))
noncomputable def F_Book_put : List D → OM := fDefM [true, false, false] 3 b_Book_put
noncomputable def b_Book___init__ : FS :=
    fSeq (fFldSet 0 "Book" "worths" (fC (.dct true 0 [] [])))
    (fSeq (fFldSet 0 "Book" "row" (fApp gLst' (fNil)))
    (fSeq (fFldSet 0 "Book" "bits" (fC (.mix true [] [])))
    (fNext)))
noncomputable def F_Book___init__ : List D → OM := fDefM [true] 1 b_Book___init__
/-! ### what the defs of books.py compute -/
def isBW (l : List Nat) : Bool := decide (2 ≤ l.length ∧ l.length ≤ 9) && l.all fun a => decide (a ∈ az)
theorem step_end {ks : List Bool} {r r' : R} {k : FS} {o : OM} (h : r = r') (h2 : endM ks (r'.seq k) = o) : endM ks (r.seq k) = o := by rw [h]; exact h2
theorem blsOf_all (m : List Nat) (q : Nat → Bool) : blsOf (m.map fun a => D.bl (q a)) = some (m.map q) := by
  induction m with
  | nil => rfl
  | cons a m ih =>
    rw [List.map_cons, List.map_cons]
    show ((blsOf (m.map fun a => D.bl (q a))).map fun l => q a :: l) = _
    rw [ih]; rfl
theorem gAll_map (m : List Nat) (q : Nat → Bool) : gAll [.lst true (m.map fun a => D.bl (q a))] = some (.bl (m.all q)) := by
  show ((blsOf (m.map fun a => D.bl (q a))).map fun bs => D.bl (bs.all id)) = _
  rw [blsOf_all, Option.map_some, List.all_map]
  rfl
theorem F_isBW (l : List Nat) (hl : l.length ≤ 1000) : F_is_word [.str l] = .ok (.bl (isBW l)) := by
  have g0 := gLen_str (l := l) (by omega)
  by_cases h2 : (2 : Int) ≤ (l.length : Int)
  · by_cases h9 : (l.length : Int) ≤ 9
    · have q : isBW l = l.all fun a => decide (a ∈ az) := by
        unfold isBW
        rw [decide_eq_true (by omega : 2 ≤ l.length ∧ l.length ≤ 9), Bool.true_and]
      rw [q]
      have ga := gAll_map l fun a => decide (a ∈ az)
      clear q
      unfold F_is_word b_is_word
      walk_at "exs"
      rw [signsOf_map, lcF_map (g := fun a => D.str [a]) (f := fun a => D.bl (decide (a ∈ az)))]
      · walk_at "exs"
      · intro a ha
        refine ⟨_, rfl, rfl, ?_⟩
        clear ga g0 ha
        walk_at "exs"
      · omega
    · have q : isBW l = false := by
        unfold isBW
        rw [decide_eq_false (fun z => h9 (by omega)), Bool.false_and]
      rw [q]
      unfold F_is_word b_is_word
      walk_at "exs"
  · have q : isBW l = false := by
      unfold isBW
      rw [decide_eq_false (fun z => h2 (by omega)), Bool.false_and]
    rw [q]
    unfold F_is_word b_is_word
    walk_at "exs"
def bk (o : Bool) (w : List (List Nat × Int)) (r : List (List Nat)) (m : List (NK × Int)) : D := bookD o (wD o w) (.lst o (r.map .str)) (bD o m)
theorem F_has (o : Bool) (w : List (List Nat × Int)) (r b : D) (l : List Nat) : F_Book_has [bookD o (wD o w) r b, .str l] = .ok (.bl (getA w l).isSome) := by
  unfold F_Book_has b_Book_has
  have e := wD_in l o w
  walk_at "exs"
theorem F_words (o : Bool) (w : List (List Nat × Int)) (r b : D) (hl : w.length < 64) : F_Book_words [bookD o (wD o w) r b] = .ok (.lst true ((sortW (w.map (·.1))).map .str)) := by
  unfold F_Book_words b_Book_words
  have e := wD_sort o w hl
  walk_at "exs"
theorem F_need (o : Bool) (w : List (List Nat × Int)) (r b : D) (l : List Nat) (hl : l.length ≤ 1000) : F_Book_need [bookD o (wD o w) r b, .str l] = if isBW l = true then (if (getA w l).isSome = true then .ok .non else .exc ⟨"NotThere", ["word"], [.str l]⟩) else .exc ⟨"NoWord", ["word"], [.str l]⟩ := by
  unfold F_Book_need b_Book_need
  have e := F_isBW l hl
  have e2 := wD_notin l o w
  cases h : isBW l
  · rw [h] at e
    clear e2
    walk_at "exs"
  · rw [h] at e
    cases h2 : (getA w l).isSome
    · rw [h2] at e2
      walk_at "exs"
    · rw [h2] at e2
      walk_at "exs"
theorem F_worth (o : Bool) (w : List (List Nat × Int)) (r b : D) (l : List Nat) (n : Int) (hl : l.length ≤ 1000) (hw : isBW l = true) (hg : getA w l = some n) : F_Book_worth [bookD o (wD o w) r b, .str l] = .ok (.int n) := by
  unfold F_Book_worth b_Book_worth
  have e := F_need o w r b l hl
  rw [if_pos hw, hg, if_pos (by rfl)] at e
  have e2 := wD_ix l o w
  rw [hg] at e2
  clear hg hw
  walk_at "exs"
theorem fld_new {n f : Str} {ns : List Str} {ds : List D} {fe : FP} {d : D} (h : fe [.io (.ins true n ns ds)] = .ok d) (hf : f ∉ ns) (hl : ns.length < 1000) : fFldSet 0 n f fe [.io (.ins true n ns ds)] = .nx [.io (.ins true n (ns ++ [f]) (ds ++ [d]))] := by
  rw [fFldSet_e, h, O.st_ok]
  show (if n = n ∧ f ∉ ns ∧ ns.length < 1000 then _ else _) = _
  rw [if_pos ⟨rfl, hf, hl⟩]
  rfl
theorem F_init : F_Book___init__ [.ins true "Book" [] []] = .ok .non [bk true [] [] []] := by
  unfold F_Book___init__ b_Book___init__
  rw [fDefM_e rfl]
  have hl : gLst' [] = some (.lst true []) := by unfold gLst'; rw [if_pos (by simp)]
  show endM [true] (fSeq _ _ [.io (.ins true "Book" [] [])]) = _
  rw [fSeq_e, fld_new (d := .dct true 0 [] []) rfl (by simp) (by simp), R.seq_nx, fSeq_e, fld_new (d := .lst true []) (by rw [fApp_e]; show O.of (gLst' []) = _; rw [hl]; rfl) (by decide +kernel) (by simp), R.seq_nx, fSeq_e, fld_new (d := .mix true [] []) rfl (by decide +kernel) (by simp)]
  rfl
def flipB (m : List (NK × Int)) (k : NK) (b : Int) : List (NK × Int) := setA m k (Builtin.bitXor (getB m k) b)
def spotK (n i : Nat) (a : Nat) : NK := .tup [.num (n : Int), .num (i : Int), .text (S [a])]
def turnB (m : List (NK × Int)) (w : List Nat) (b : Int) : Nat → List (NK × Int)
  | 0 => flipB m (.num (w.length : Int)) b
  | i + 1 => match w[i]? with
    | some a => flipB (turnB m w b i) (spotK w.length i a) b
    | none => turnB m w b i
theorem turnB_len (m : List (NK × Int)) (w : List Nat) (b : Int) : ∀ i, (turnB m w b i).length ≤ m.length + i + 1
  | 0 => by
    have := setA_len (l := m) (a := (NestedKey.num (w.length : Int))) (b := Builtin.bitXor (getB m (.num (w.length : Int))) b)
    exact this
  | i + 1 => by
    have ih := turnB_len m w b i
    unfold turnB
    cases w[i]? with
    | none => dsimp only; omega
    | some a =>
      have := setA_len (l := turnB m w b i) (a := spotK w.length i a) (b := Builtin.bitXor (getB (turnB m w b i) (spotK w.length i a)) b)
      dsimp only [flipB]
      omega
theorem nk_spot (n i a : Nat) : nkOf (.tup [.int (n : Int), .int (i : Int), .str [a]]) = some (spotK n i a) := by simp [nkOf, nksOf, spotK]
theorem ok_spot (n i a : Nat) : NK.ok (spotK n i a) = true := by rfl
theorem nk_num (n : Int) : nkOf (.int n) = some (.num n) := by simp [nkOf]
theorem ok_num (n : Int) : NK.ok (.num n) = true := by rfl
theorem F_bits (w r : D) (m : List (NK × Int)) (l : List Nat) (at' : Nat) (hl : l.length ≤ 1000) (hat : at' ≤ 1000) (hm : m.length ≤ 1000000) : F_Book_turn_bits [bookD true w r (bD true m), .str l, .int (at' : Int)] = .ok .non [bookD true w r (bD true (turnB m l (2 ^ at') l.length))] := by
  have g0 := gLen_str (l := l) (by omega)
  have g1 : gShl (.int 1) (.int (at' : Int)) = some (.int (2 ^ at')) := by
    show @ite _ (0 ≤ (at' : Int) ∧ (at' : Int) ≤ 1000000 ∧ (1 : Int).natAbs < 18446744073709551616) (Classical.propDecidable _) (some (D.int (1 * 2 ^ (at' : Int).toNat))) none = _
    rw [if_pos ⟨by omega, by omega, by decide⟩]
    simp
  have g2 : ∀ m, isDct (bD true m) = true := fun _ => rfl
  have g3 := bD_get (m := m) (o := true) (nk_num (l.length : Int)) (ok_num _)
  have g4 := bD_store (m := m) (n := Builtin.bitXor (getB m (.num (l.length : Int))) (2 ^ at')) (nk_num (l.length : Int)) (ok_num _) (by omega)
  unfold F_Book_turn_bits b_Book_turn_bits
  rw [fDefM_e rfl]
  walk_at "exs"
  refine step_end (loop_enum (f := fun a => D.str [a]) (xs := l) (fun i => [.io (bookD true w r (bD true (turnB m l (2 ^ at') i))), .bor (.str l), .bor (.int (at' : Int)), .own (.int (2 ^ at')), .no, .no, .no]) rfl (fun i a ha => ?_) rfl) ?_
  · refine ⟨_, rfl, .inl ?_⟩
    have k2 := turnB_len m l (2 ^ at') i
    have ki := (List.getElem?_eq_some_iff.mp ha).1
    have k3 := bD_get (m := turnB m l (2 ^ at') i) (o := true) (nk_spot l.length i a) (ok_spot _ _ _)
    have k4 := bD_store (m := turnB m l (2 ^ at') i) (n := Builtin.bitXor (getB (turnB m l (2 ^ at') i) (spotK l.length i a)) (2 ^ at')) (nk_spot l.length i a) (ok_spot _ _ _) (by omega)
    have k5 : turnB m l (2 ^ at') (i + 1) = setA (turnB m l (2 ^ at') i) (spotK l.length i a) (Builtin.bitXor (getB (turnB m l (2 ^ at') i) (spotK l.length i a)) (2 ^ at')) := by
      rw [turnB, ha]; rfl
    rw [k5]
    generalize turnB m l (2 ^ at') i = m' at *
    clear g1 g3 g4 k2 ki hm hat ha k5
    walk_at "exs"
  · walk_at "exs"
theorem F_put (w : List (List Nat × Int)) (r : List (List Nat)) (m : List (NK × Int)) (l : List Nat) (n : Int) (hl : l.length ≤ 1000) (hm : m.length ≤ 1000000) (hr : r.length ≤ 1000) (hw : w.length ≤ 1000) :
    F_Book_put [bk true w r m, .str l, .int n] = if isBW l = true then (if (getA w l).isSome = true then .exc ⟨"Twice", ["word"], [.str l]⟩ [bk true w r m] else .ok .non [bk true (w ++ [(l, n)]) (r ++ [l]) (turnB m l (2 ^ r.length) l.length)]) else .exc ⟨"NoWord", ["word"], [.str l]⟩ [bk true w r m] := by
  unfold F_Book_put b_Book_put bk
  have e := F_isBW l hl
  have e2 := wD_in l true w
  rw [fDefM_e rfl]
  cases h : isBW l
  · rw [h] at e
    clear e2
    walk_at "exs"
  · rw [h] at e
    cases h2 : (getA w l).isSome
    · rw [h2] at e2
      have h3 : l ∉ w.map (·.1) := fun z => by rw [getA_some.mpr z] at h2; cases h2
      have e3 := wD_store l n w (by omega)
      rw [keys_set h3] at e3
      have e5 := F_bits (wD true (w ++ [(l, n)])) (.lst true (r.map .str)) m l r.length hl hr hm
      have e6 : gAppP (.lst true (r.map D.str)) (.str l) = some (.lst true ((r ++ [l]).map D.str)) := by
        show @ite _ ((r.map D.str).length < 16777216 ∧ clo (D.str l) = true) (Classical.propDecidable _) (some (D.lst true (r.map D.str ++ [.str l]))) none = _
        rw [if_pos ⟨by rw [List.length_map]; omega, rfl⟩, List.map_append]
        rfl
      clear h3
      generalize wD true (w ++ [(l, n)]) = W' at *
      walk_at "exs"
      rw [callR_1 (i := 0) (p := []) (d0 := bookD true W' (.lst true (r.map D.str)) (bD true m)) (by rfl) (by rfl) (by rfl) (by rfl) (by rfl)]
      walk_at "exs"
    · rw [h2] at e2
      walk_at "exs"
theorem idxD_str (l : List Nat) : ∀ r : List (List Nat), l ∈ r → ∃ k, idxD l (r.map D.str) = some k ∧ r[k]? = some l ∧ k < r.length
  | [], h => by simp at h
  | a :: r, h => by
    by_cases e : a = l
    · exact ⟨0, by show (if a = l then some 0 else _) = _; rw [if_pos e], by rw [e]; rfl, by simp⟩
    · have h' : l ∈ r := by
        rcases List.mem_cons.mp h with z | z
        · exact absurd z.symm e
        · exact z
      obtain ⟨k, h1, h2, h3⟩ := idxD_str l r h'
      refine ⟨k + 1, ?_, by simpa using h2, by simp; exact h3⟩
      show (if a = l then some 0 else (idxD l (r.map D.str)).map (· + 1)) = _
      rw [if_neg e, h1]
      rfl
/-- the place of a word in the row -/
def atR (r : List (List Nat)) (l : List Nat) : Nat := (idxD l (r.map D.str)).getD 0
theorem atR_ok {r : List (List Nat)} {l : List Nat} (h : l ∈ r) : idxD l (r.map D.str) = some (atR r l) ∧ r[atR r l]? = some l ∧ atR r l < r.length := by
  obtain ⟨k, h1, h2, h3⟩ := idxD_str l r h
  unfold atR
  rw [h1]
  exact ⟨rfl, h2, h3⟩
/-! ### words out of a script -/
theorem az_get (z : Int) : az.getD (z % 26).toNat 0 ∈ az := by
  have h1 := Int.emod_nonneg z (show (26 : Int) ≠ 0 by decide)
  have h2 := Int.emod_lt_of_pos z (show (0 : Int) < 26 by decide)
  have h3 : (z % 26).toNat < az.length := by rw [az_len]; omega
  rw [List.getD_eq_getElem?_getD, List.getElem?_eq_getElem h3]
  exact List.getElem_mem _
theorem az_ix (z : Int) : gIx2 (.str az) (.int (z % 26)) = some (.str [az.getD (z % 26).toNat 0]) := by
  have h1 := Int.emod_nonneg z (show (26 : Int) ≠ 0 by decide)
  have h2 := Int.emod_lt_of_pos z (show (0 : Int) < 26 by decide)
  obtain ⟨n, hn⟩ : ∃ n : Nat, z % 26 = (n : Int) := ⟨(z % 26).toNat, by omega⟩
  rw [hn] at h1 h2 ⊢
  have h3 : n < az.length := by rw [az_len]; omega
  rw [gIx2_str (by rw [az_len]; omega), atI_cast, List.getElem?_eq_getElem h3, Int.toNat_natCast, List.getD_eq_getElem?_getD, List.getElem?_eq_getElem h3]
  rfl
theorem isBW_len {t : List Nat} (h : isBW t = true) : t.length ≤ 9 := by
  unfold isBW at h
  rw [Bool.and_eq_true, decide_eq_true_eq] at h
  exact h.1.2
/-! ### the pool -/
theorem az_lt : ∀ a ∈ az, a < 1114112 := by decide
theorem isBW_sh {l : List Nat} (h : isBW l = true) (n : Nat) : sh n (.str l) = true := by
  have h' : l.all (· < 1114112) = true := by
    unfold isBW at h
    rw [Bool.and_eq_true, List.all_eq_true] at h
    rw [List.all_eq_true]
    exact fun a ha => decide_eq_true (az_lt a (of_decide_eq_true (h.2 a ha)))
  cases n <;> simpa [sh] using h'
theorem shO_strs {o : Bool} {ls : List (List Nat)} (h : ∀ l ∈ ls, isBW l = true) : shO (.lst o (ls.map .str)) = true := shO_of 1 (by
  simp only [sh]
  exact shs_map fun l hl => isBW_sh (h l hl) 0)
/-! ### loops -/
theorem loop_invB {fg : FG} {fb : FS} (P : Nat → Env → Prop) : ∀ (ds : List D) (k : Nat) (env : Env), P k env → (∀ i d env, ds[i]? = some d → P (k + i) env → ∃ e env', fg d env = some e ∧ (fb e = .nx env' ∨ fb e = .cnt env') ∧ P (k + i + 1) env') → ∃ r, loopF fg fb ds env = .nx r ∧ P (k + ds.length) r
  | [], k, env, h0, _ => ⟨env, rfl, h0⟩
  | d :: ds, k, env, h0, h => by
    obtain ⟨e, env', h1, h2, h3⟩ := h 0 d env rfl h0
    obtain ⟨r, h4, h5⟩ := loop_invB P ds (k + 1) env' h3 (fun i d env hd hp => by
      have := h (i + 1) d env (by simpa using hd) (by rw [show k + (i + 1) = k + 1 + i by omega]; exact hp)
      rw [show k + (i + 1) = k + 1 + i by omega] at this
      exact this)
    refine ⟨r, ?_, by rw [List.length_cons, show k + (ds.length + 1) = k + 1 + ds.length by omega]; exact h5⟩
    rw [loopF_cons, h1]
    rcases h2 with h2 | h2 <;> (dsimp only; rw [h2]; exact h4)
/-- a loop that changes nothing -/
theorem loop_sameB {fg : FG} {fb : FS} {ds : List D} {env : Env} (h : ∀ d ∈ ds, ∃ e, fg d env = some e ∧ (fb e = .nx env ∨ fb e = .cnt env)) : loopF fg fb ds env = .nx env := by
  obtain ⟨r, h1, h2⟩ := loop_invB (fg := fg) (fb := fb) (fun _ e => e = env) ds 0 env rfl (fun i d e hd he => by
    subst he
    obtain ⟨e', a, b⟩ := h d (List.mem_of_getElem? hd)
    exact ⟨e', e, a, b, rfl⟩)
  rw [h1, h2]
def R.haltsB (o : O D) : R → Prop
  | .ret d _ => o = .ok d
  | .exc x _ => o = .exc x
  | _ => False
theorem loop_findB {α : Type} {fg : FG} {fb : FS} {f : α → D} {env : Env} (p : α → Bool) (q : α → O D) : ∀ {xs : List α}, (∀ x ∈ xs, ∃ e, fg (f x) env = some e ∧ (p x = false → fb e = .nx env) ∧ (p x = true → R.haltsB (q x) (fb e))) →
    (xs.find? p = none → loopF fg fb (xs.map f) env = .nx env) ∧ (∀ x, xs.find? p = some x → R.haltsB (q x) (loopF fg fb (xs.map f) env))
  | [], _ => ⟨fun _ => rfl, fun x h => by simp at h⟩
  | x :: xs, h => by
    obtain ⟨e, h1, h2, h3⟩ := h x (by simp)
    have ih := loop_findB (xs := xs) p q fun y hy => h y (by simp [hy])
    rw [List.map_cons, loopF_cons, h1, List.find?_cons]
    dsimp only
    cases hp : p x with
    | false => rw [h2 hp]; exact ih
    | true =>
      have h4 := h3 hp
      refine ⟨fun z => (by cases z), fun y hy => ?_⟩
      cases hy
      cases hr : fb e with
      | ret d e' => rw [hr] at h4; exact h4
      | exc d e' => rw [hr] at h4; exact h4
      | _ => rw [hr] at h4; exact False.elim h4
theorem halts_seq {o : O D} {r : R} {k : FS} (h : R.haltsB o r) : (r.seq k).out = o := by
  cases r <;> first | exact Eq.symm h | exact False.elim h
theorem find_outB {α : Type} {fg : FG} {fb k : FS} {f : α → D} {env : Env} {xs : List α} {o : O D} (p : α → Bool) (q : α → O D) (h : ∀ x ∈ xs, ∃ e, fg (f x) env = some e ∧ (p x = false → fb e = .nx env) ∧ (p x = true → R.haltsB (q x) (fb e)))
    (h1 : xs.find? p = none → (k env).out = o) (h2 : ∀ x, xs.find? p = some x → q x = o) : ((loopF fg fb (xs.map f) env).seq k).out = o := by
  obtain ⟨g1, g2⟩ := loop_findB p q h
  cases hf : xs.find? p with
  | none => rw [g1 hf]; exact h1 hf
  | some x => rw [← h2 x hf]; exact halts_seq (g2 x hf)
/-- a loop that goes on, or stops for good -/
theorem loop_orB {fg : FG} {fb : FS} (P : Nat → Env → Prop) (o : O D) : ∀ (ds : List D) (k : Nat) (env : Env), P k env → (∀ i d env, ds[i]? = some d → P (k + i) env → ∃ e, fg d env = some e ∧ ((∃ env', (fb e = .nx env' ∨ fb e = .cnt env') ∧ P (k + i + 1) env') ∨ R.haltsB o (fb e))) →
    (∃ r, loopF fg fb ds env = .nx r ∧ P (k + ds.length) r) ∨ R.haltsB o (loopF fg fb ds env)
  | [], k, env, h0, _ => .inl ⟨env, rfl, h0⟩
  | d :: ds, k, env, h0, h => by
    obtain ⟨e, h1, h2⟩ := h 0 d env rfl h0
    rw [loopF_cons, h1]
    dsimp only
    rcases h2 with ⟨env', h2, h3⟩ | h2
    · have ih := loop_orB P o ds (k + 1) env' h3 (fun i d env hd hp => by
        have := h (i + 1) d env (by simpa using hd) (by rw [show k + (i + 1) = k + 1 + i by omega]; exact hp)
        rw [show k + (i + 1) = k + 1 + i by omega] at this
        exact this)
      rw [List.length_cons, show k + (ds.length + 1) = k + 1 + ds.length by omega]
      rcases h2 with h2 | h2 <;> rw [h2] <;> exact ih
    · refine .inr ?_
      cases hr : fb e with
      | ret d e' => rw [hr] at h2; exact h2
      | exc d e' => rw [hr] at h2; exact h2
      | _ => rw [hr] at h2; exact False.elim h2
/-! ### a book and the dues -/
structure BkOk (n : Nat) (w : List (List Nat × Int)) (r : List (List Nat)) (m : List (NK × Int)) : Prop where
  lw : w.length ≤ n
  lr : r.length ≤ n
  lm : m.length ≤ 10 * n
  kr : ∀ l ∈ w.map (·.1), l ∈ r
  kw : ∀ l ∈ w.map (·.1), isBW l = true
theorem mem_set {r : List (List Nat)} {k : Nat} {l a : List Nat} (h : a ∈ r) (hk : r[k]? = some l) (ne : a ≠ l) : a ∈ r.set k [] := by
  obtain ⟨j, hj⟩ := List.getElem?_of_mem h
  have : k ≠ j := fun z => ne (by
    subst z
    rw [hk] at hj
    exact (Option.some.inj hj).symm)
  exact List.mem_of_getElem? (i := j) (by rw [List.getElem?_set_ne this]; exact hj)
theorem BkOk.del {n : Nat} {w : List (List Nat × Int)} {r : List (List Nat)} {m : List (NK × Int)} {l : List Nat} {b : Int} (h : BkOk n w r m) (hl : isBW l = true) (hi : l ∈ r) : BkOk (n + 1) (delA w l) (r.set (atR r l) []) (turnB m l b l.length) := by
  obtain ⟨i1, i2, i3⟩ := atR_ok hi
  have hb := isBW_len hl
  refine ⟨?_, by rw [List.length_set]; have := h.lr; omega, ?_, fun a ha => ?_, fun a ha => h.kw a (keys_del.mp ha).2⟩
  · have : (delA w l).length ≤ w.length := List.length_filter_le _ _
    have := h.lw
    omega
  · have := turnB_len m l b l.length
    have := h.lm
    omega
  · obtain ⟨h1, h2⟩ := keys_del.mp ha
    exact mem_set (h.kr a h2) i2 h1
theorem BkOk.add {n : Nat} {w : List (List Nat × Int)} {r : List (List Nat)} {m : List (NK × Int)} {l : List Nat} {b v : Int} (h : BkOk n w r m) (hl : isBW l = true) : BkOk (n + 1) (w ++ [(l, v)]) (r ++ [l]) (turnB m l b l.length) := by
  have hb := isBW_len hl
  refine ⟨by rw [List.length_append]; have := h.lw; simp; omega, by rw [List.length_append]; have := h.lr; simp; omega, ?_, fun a ha => ?_, fun a ha => ?_⟩
  · have := turnB_len m l b l.length
    have := h.lm
    omega
  · rw [List.map_append] at ha
    rcases List.mem_append.mp ha with z | z
    · exact List.mem_append_left _ (h.kr a z)
    · exact List.mem_append_right _ (by simpa using z)
  · rw [List.map_append] at ha
    rcases List.mem_append.mp ha with z | z
    · exact h.kw a z
    · have : a = l := by simpa using z
      rw [this]; exact hl
end CV
namespace CV
open PySem L2
local macro_rules | `(tactic| walk_at "ex") => `(tactic| simp (config := { maxSteps := 1000000 }) only [fxP_e', fxOp_e, faxNil_e, faxCons_e, fxApp_e, fxFz_e, OE.bind_ok, OE.bind_exc, OE.bindL_ok, OE.bindL_exc, OEL.bind_ok, OEL.bind_exc, OEL.bindL_ok, OEL.bindL_exc, Ofx_ok, Ofx_exc, OEof_some, isOwnL_e, appM_e, apM_ok, apM_exc, fAppendM_e', tp_ok, tp_exc, fCallT_e', pick_t, pick_f, pick_n, lcx_ok, fLcM_e', fDropM_e, fSetM_e, fRetM_e, fOpM_e, fIfM_e, ifR_tt, ifR_tf, ifR_ft, ifR_ff, fCallM_e, fMethM_e, fMeth_e, fFld_e, fplVar_e, fplFld_e, fplIx_e, fPl1_e', fStoreP_e', appR1_some, putPl_e, mutE_e, kindE_e, setP_nil, setP_w, setP_r, setP_b, setP_ix, OEst_ok, OEst_exc, OEst_bad, OEbd_ok, OEbd_exc, OEbd_bad, OMoe_ok, OMoe_exc, OMoe_bad, Ooe_ok, Ooe_exc, Ooe_bad, ooe_some, ooe_none, fDropClear_e, fLIndex_e, fBits_e, faNil_e, faCl_e, faIo_e, faVw_e, fMake_e, fFldSet_e, envM_t, envM_f, envM_n, endM_ret, endM_nx, endM_exc, iosOf_t, iosOf_f, iosOf_n, AR.k, AR.d, ioI, ioP, isLst, plIx_0, plIx_1, List.getD_cons_zero, List.getD_cons_succ, gFld_w, gFld_r, gFld_b, plFld_w, plFld_r, plFld_b, obj_has, obj_need, obj_words, obj_worth, obj_fitting, obj_put, obj_drop, obj_bits, fForM_e, fForO_e, fPinIx_e, fIsO_e, fMake0_e, fMakeV_e, fMakeX_e, fAdd_e, fTryK_e, fIsX_e, fXfK_e, fLenSet_e, fLenSetK_e, gLenY_t, gLenY_s, gLenY_w, gNeX_s,  fInG_e, fExtend_e', fCallZ_e, fRetT_e, retTR_ok, fmNil_e, fmCons_e, fmMv_e, fNever_e, fRaise0_e, fRaise1_e, fTry_e, tryR_nx, tryR_ret, tryR_exc, fIsE_e, fXf_e, fFz_e, fLRev_e, fLRevL_e, fStore2_e, fDisp_e, fpNil_e, fpCons_e, keyOf1_i, keyOf1_s, gIsi_dct, kit_dict_str, kit_dict_int, kit_dict_bool, kit_dict_list, kit_dict_tuple, fFrzS_e, frzE_nil, frzE_cons, frzs_strs, gListX_d, gListX_t, gListX_l, gListX_r, gInt_i, gInt_b, Int.cast_ofNat_Int, Int.reduceEq, flat, frzs, fSeq_e, fNext_e, fSet_e, fSetZ_e, fDrop_e, fRet_e, fRetV_e, fRetN_e, fIfS_e, fBreak_e, fCont_e, fStore_e, fMut0_e, fC_e, fVar_e, fVarB_e, fClo_e, fOp_e, fAnd_e, fOr_e, fNot_e, fIf_e, fBool_e, fNeg_e, ftB_e, ftNot_e, ftAnd_e, ftOr_e, ftYes_e, fNil_e, fCons_e, fApp_e, fChain_e, fCall_e, fIsi_e, fM1_e, fM0_e, fSl_e, foN_e, foS_e, fAsg_e, fPar_e, fgName_e, fgNil_e, fgCons_e, fgTup_e, fGet2_e, fiSq_e, fiEnum_e, fiZip_e, fiRng2_e, fiRev_e, fFor_e, fWipe_e, fPre_e, fLc_e, fLcO_e, wipeE_nil, wipeE_cons, fDef_e, az_fold, cell_fold, frz_cell, clo_cell', fAppend_e', fiRng1_e', R.seq_assoc, out_ret, out_nx, out_exc, Option.bind_some,
  O.bind_ok, O.bind_exc, O.bind_bad, O.st_ok, O.st_exc, O.st_bad, O.of_some, O.of_none, O.nox_ok, R.seq_nx, R.seq_ret, R.seq_brk, R.seq_cnt, R.seq_exc, R.seq_bad, R.wipe_nx, R.wipe_cnt, R.wipe_brk, R.wipe_ret, R.wipe_exc, R.wipe_bad,
  List.set_cons_zero, List.set_cons_succ, List.getElem?_cons_zero, List.getElem?_cons_succ, List.map_cons, List.map_nil, List.cons_append, List.nil_append, List.replicate_succ, List.replicate_zero, List.length_cons, List.length_nil, Nat.sub_self, Nat.zero_add, Nat.reduceAdd, Nat.reduceSub, Nat.reduceEqDiff, List.append_nil,
  clo, clos, Bool.true_and, Bool.and_true, Bool.not_true, Bool.not_false, Bool.false_and, Bool.and_false, Bool.true_or, Bool.or_true, Bool.false_or, Bool.or_false, if_true, if_false, Bool.false_eq_true, ite_true, ite_false, eq_self_iff_true, decide_true, decide_false, Option.bind_some, Option.map_some, Option.bind_none, Option.map_none, reduceIte, reduceCtorEq,
  gI, gB, gEq_int, gNe_int, gIsi_non, gIsi_bl, gIsi_int, gIsi_str, gIsi_tup, gIsi_lst, kit_eq, kit_NoneType_str, kit_NoneType_int, kit_NoneType_bool, kit_NoneType_tuple, kit_NoneType_list, kit_bool_str, kit_bool_int, kit_bool_tuple, kit_bool_list, kit_int_str, kit_int_bool, kit_int_tuple, kit_int_list, kit_str_int, kit_str_bool, kit_str_tuple, kit_str_list, kit_tuple_str, kit_tuple_int, kit_tuple_bool, kit_tuple_list, kit_list_str, kit_list_int, kit_list_bool, kit_list_tuple, frz, gLen_tup, gLen_lst, gLen_ro, gIx2_tup, gIx2_lst, gIx2_ro, gAdd_int, atI_cast, atI_0', atI_1', atI_2', atI_3', itemsOf_str, List.length_map, List.getElem?_map, clos_strs, clos_ints, clos_bls, clos_signs, gIn2_sign, gNotIn2_sign, gIs_non, gIsNot_non, gMul_l2, gMul_r2, gMul_l3, gMul_l5, gMul_r10, gMul_r12, gMul_r60, gMul_r61, gMul_r16807, gMul_r39373, gMul_r48271, gMul_r69621, gMul_r982451653, gDiv_2, gDiv_3, gDiv_4, gDiv_5, gDiv_6, gDiv_7, gDiv_8, gDiv_9, gDiv_10, gDiv_11, gDiv_12, gDiv_14, gDiv_15, gDiv_16, gDiv_17, gDiv_18, gDiv_20, gDiv_21, gDiv_24, gDiv_26, gDiv_27, gDiv_30, gDiv_32, gDiv_33, gDiv_36, gDiv_40, gDiv_49, gDiv_52, gDiv_54, gDiv_60, gDiv_64, gDiv_77, gDiv_78, gDiv_81, gDiv_82, gDiv_90, gDiv_108, gDiv_156, gDiv_160, gDiv_162, gDiv_200, gDiv_234, gDiv_240, gDiv_270, gDiv_300, gDiv_343, gDiv_800, gDiv_832, gDiv_900, gDiv_960, gDiv_2400, gDiv_2401, gDiv_7000, gDiv_7020, gMod_2, gMod_3, gMod_4, gMod_5, gMod_6, gMod_7, gMod_8, gMod_9, gMod_10, gMod_11, gMod_12, gMod_16, gMod_17, gMod_19, gMod_24, gMod_25, gMod_26, gMod_28, gMod_30, gMod_32, gMod_40, gMod_60, gMod_64, gMod_81, gMod_900, gMod_1000, gMod_2147483587, gMod_2147483629, gMod_2147483646, gMod_2147483647, gTup_ok, gLst_ok, Nat.reduceLT, Nat.reduceLeDiff, Int.ofNat_lt, Int.ofNat_le, Int.ofNat_inj, decide_eq_true_eq, not_false_eq_true, not_true_eq_false, ite_not, and_true, true_and, and_false, false_and, or_true, true_or, or_false, false_or, Bool.not_eq_true', Bool.not_eq_true, Bool.not_eq_false', decide_eq_false_iff_not, Bool.not_not])
local macro_rules | `(tactic| walk_at "exs") => `(tactic| simp (config := { maxSteps := 1000000 }) only [fxP_e', fxOp_e, faxNil_e, faxCons_e, fxApp_e, fxFz_e, OE.bind_ok, OE.bind_exc, OE.bindL_ok, OE.bindL_exc, OEL.bind_ok, OEL.bind_exc, OEL.bindL_ok, OEL.bindL_exc, Ofx_ok, Ofx_exc, OEof_some, isOwnL_e, appM_e, apM_ok, apM_exc, fAppendM_e', tp_ok, tp_exc, fCallT_e', pick_t, pick_f, pick_n, lcx_ok, fLcM_e', fDropM_e, fSetM_e, fRetM_e, fOpM_e, fIfM_e, ifR_tt, ifR_tf, ifR_ft, ifR_ff, fCallM_e, fMethM_e, fMeth_e, fFld_e, fplVar_e, fplFld_e, fplIx_e, fPl1_e', fStoreP_e', appR1_some, putPl_e, mutE_e, kindE_e, setP_nil, setP_w, setP_r, setP_b, setP_ix, OEst_ok, OEst_exc, OEst_bad, OEbd_ok, OEbd_exc, OEbd_bad, OMoe_ok, OMoe_exc, OMoe_bad, Ooe_ok, Ooe_exc, Ooe_bad, ooe_some, ooe_none, fDropClear_e, fLIndex_e, fBits_e, faNil_e, faCl_e, faIo_e, faVw_e, fMake_e, fFldSet_e, envM_t, envM_f, envM_n, endM_ret, endM_nx, endM_exc, iosOf_t, iosOf_f, iosOf_n, AR.k, AR.d, ioI, ioP, isLst, plIx_0, plIx_1, List.getD_cons_zero, List.getD_cons_succ, gFld_w, gFld_r, gFld_b, plFld_w, plFld_r, plFld_b, obj_has, obj_need, obj_words, obj_worth, obj_fitting, obj_put, obj_drop, obj_bits, fForM_e, fForO_e, fPinIx_e, fIsO_e, fMake0_e, fMakeV_e, fMakeX_e, fAdd_e, fTryK_e, fIsX_e, fXfK_e, fLenSet_e, fLenSetK_e, gLenY_t, gLenY_s, gLenY_w, gNeX_s,  fInG_e, fExtend_e', fCallZ_e, fRetT_e, retTR_ok, fmNil_e, fmCons_e, fmMv_e, fNever_e, fRaise0_e, fRaise1_e, fTry_e, tryR_nx, tryR_ret, tryR_exc, fIsE_e, fXf_e, fFz_e, fLRev_e, fLRevL_e, fStore2_e, fDisp_e, fpNil_e, fpCons_e, keyOf1_i, keyOf1_s, gIsi_dct, kit_dict_str, kit_dict_int, kit_dict_bool, kit_dict_list, kit_dict_tuple, fFrzS_e, frzE_nil, frzE_cons, frzs_strs, gListX_d, gListX_t, gListX_l, gListX_r, gInt_i, gInt_b, Int.cast_ofNat_Int, Int.reduceEq, flat, frzs, fSeq_e, fNext_e, fSet_e, fSetZ_e, fDrop_e, fRet_e, fRetV_e, fRetN_e, fIfS_e, fBreak_e, fCont_e, fStore_e, fMut0_e, fC_e, fVar_e, fVarB_e, fClo_e, fOp_e, fAnd_e, fOr_e, fNot_e, fIf_e, fBool_e, fNeg_e, ftB_e, ftNot_e, ftAnd_e, ftOr_e, ftYes_e, fNil_e, fCons_e, fApp_e, fChain_e, fCall_e, fIsi_e, fM1_e, fM0_e, fSl_e, foN_e, foS_e, fAsg_e, fPar_e, fgName_e, fgNil_e, fgCons_e, fgTup_e, fGet2_e, fiSq_e, fiEnum_e, fiZip_e, fiRng2_e, fiRev_e, fFor_e, fWipe_e, fPre_e, fLc_e, fLcO_e, wipeE_nil, wipeE_cons, fDef_e, az_fold, cell_fold, frz_cell, clo_cell', fAppend_e', fiRng1_e', R.seq_assoc, out_ret, out_nx, out_exc, Option.bind_some,
  O.bind_ok, O.bind_exc, O.bind_bad, O.st_ok, O.st_exc, O.st_bad, O.of_some, O.of_none, O.nox_ok, R.seq_nx, R.seq_ret, R.seq_brk, R.seq_cnt, R.seq_exc, R.seq_bad, R.wipe_nx, R.wipe_cnt, R.wipe_brk, R.wipe_ret, R.wipe_exc, R.wipe_bad,
  List.set_cons_zero, List.set_cons_succ, List.getElem?_cons_zero, List.getElem?_cons_succ, List.map_cons, List.map_nil, List.cons_append, List.nil_append, List.replicate_succ, List.replicate_zero, List.length_cons, List.length_nil, Nat.sub_self, Nat.zero_add, Nat.reduceAdd, Nat.reduceSub, Nat.reduceEqDiff, List.append_nil,
  clo, clos, Bool.true_and, Bool.and_true, Bool.not_true, Bool.not_false, Bool.false_and, Bool.and_false, Bool.true_or, Bool.or_true, Bool.false_or, Bool.or_false, if_true, if_false, Bool.false_eq_true, ite_true, ite_false, eq_self_iff_true, decide_true, decide_false, Option.bind_some, Option.map_some, Option.bind_none, Option.map_none, reduceIte, reduceCtorEq,
  gI, gB, gEq_int, gNe_int, gIsi_non, gIsi_bl, gIsi_int, gIsi_str, gIsi_tup, gIsi_lst, kit_eq, kit_NoneType_str, kit_NoneType_int, kit_NoneType_bool, kit_NoneType_tuple, kit_NoneType_list, kit_bool_str, kit_bool_int, kit_bool_tuple, kit_bool_list, kit_int_str, kit_int_bool, kit_int_tuple, kit_int_list, kit_str_int, kit_str_bool, kit_str_tuple, kit_str_list, kit_tuple_str, kit_tuple_int, kit_tuple_bool, kit_tuple_list, kit_list_str, kit_list_int, kit_list_bool, kit_list_tuple, frz, gLen_tup, gLen_lst, gLen_ro, gIx2_tup, gIx2_lst, gIx2_ro, gAdd_int, atI_cast, atI_0', atI_1', atI_2', atI_3', itemsOf_str, List.length_map, List.getElem?_map, clos_strs, clos_ints, clos_bls, clos_signs, gIn2_sign, gNotIn2_sign, gIs_non, gIsNot_non, gMul_l2, gMul_r2, gMul_l3, gMul_l5, gMul_r10, gMul_r12, gMul_r60, gMul_r61, gMul_r16807, gMul_r39373, gMul_r48271, gMul_r69621, gMul_r982451653, gDiv_2, gDiv_3, gDiv_4, gDiv_5, gDiv_6, gDiv_7, gDiv_8, gDiv_9, gDiv_10, gDiv_11, gDiv_12, gDiv_14, gDiv_15, gDiv_16, gDiv_17, gDiv_18, gDiv_20, gDiv_21, gDiv_24, gDiv_26, gDiv_27, gDiv_30, gDiv_32, gDiv_33, gDiv_36, gDiv_40, gDiv_49, gDiv_52, gDiv_54, gDiv_60, gDiv_64, gDiv_77, gDiv_78, gDiv_81, gDiv_82, gDiv_90, gDiv_108, gDiv_156, gDiv_160, gDiv_162, gDiv_200, gDiv_234, gDiv_240, gDiv_270, gDiv_300, gDiv_343, gDiv_800, gDiv_832, gDiv_900, gDiv_960, gDiv_2400, gDiv_2401, gDiv_7000, gDiv_7020, gMod_2, gMod_3, gMod_4, gMod_5, gMod_6, gMod_7, gMod_8, gMod_9, gMod_10, gMod_11, gMod_12, gMod_16, gMod_17, gMod_19, gMod_24, gMod_25, gMod_26, gMod_28, gMod_30, gMod_32, gMod_40, gMod_60, gMod_64, gMod_81, gMod_900, gMod_1000, gMod_2147483587, gMod_2147483629, gMod_2147483646, gMod_2147483647, gTup_ok, gLst_ok, Nat.reduceLT, Nat.reduceLeDiff, Int.ofNat_lt, Int.ofNat_le, Int.ofNat_inj, decide_eq_true_eq, not_false_eq_true, not_true_eq_false, ite_not, and_true, true_and, and_false, false_and, or_true, true_or, or_false, false_or, Bool.not_eq_true', Bool.not_eq_true, Bool.not_eq_false', decide_eq_false_iff_not, Bool.not_not, *])
noncomputable def b_is_worth : FS :=
    fSeq (fIfS (ftOr (ftNot (ftB (fChain (gB fun i j => decide (i ≤ j)) (gB fun i j => decide (i ≤ j)) (fC (.int 1)) (fClo (fApp gLen (fCons (fVar 0) (fNil)))) (fC (.int 60))))) (ftAnd (ftB (fOp gEq (fOp gIx2 (fVar 0) (fC (.int 0))) (fC (.str [48])))) (ftB (fOp gNe (fVar 0) (fC (.str [48])))))) (fSeq (fRet (fC (.bl false)))
    (fNext)) (fNext))
    (fSeq (fRet (fApp gAll (fCons (fLc (fiSq (fVarB 0)) (fgName 1) (ftYes) (fOp gIn2 (fVar 1) (fC (.str [48, 49, 50, 51, 52, 53, 54, 55, 56, 57]))) [1]) (fNil))))
    (fNext))
noncomputable def F_is_worth : List D → O D := fDef 1 2 b_is_worth
noncomputable def b__law_is_line : FS :=
    fSeq (fAsg (fgTup 3 (fgCons (fgName 1) (fgCons (fgName 2) (fgCons (fgName 3) (fgNil))))) (fM1 gPartition (fVar 0) (fC (.str [32]))))
    (fSeq (fIfS (ftOr (ftNot (ftB (fChain (gB fun i j => decide (i ≤ j)) (gB fun i j => decide (i ≤ j)) (fC (.int 2)) (fClo (fApp gLen (fCons (fVar 1) (fNil)))) (fC (.int 9))))) (ftOr (ftNot (ftB (fChain (gB fun i j => decide (i ≤ j)) (gB fun i j => decide (i ≤ j)) (fC (.int 1)) (fClo (fApp gLen (fCons (fVar 3) (fNil)))) (fC (.int 60))))) (ftAnd (ftB (fOp gEq (fOp gIx2 (fVar 3) (fC (.int 0))) (fC (.str [48])))) (ftB (fOp gNe (fVar 3) (fC (.str [48]))))))) (fSeq (fRet (fC (.bl false)))
    (fNext)) (fNext))
    (fSeq (fPre [4] (fFor (fiSq (fVarB 1)) (fgName 4) (fWipe [4] (fSeq (fIfS (ftB (fOp gNotIn2 (fVar 4) (fC (.str [97, 98, 99, 100, 101, 102, 103, 104, 105, 106, 107, 108, 109, 110, 111, 112, 113, 114, 115, 116, 117, 118, 119, 120, 121, 122])))) (fSeq (fRet (fC (.bl false)))
    (fNext)) (fNext))
    (fNext)))))
    (fSeq (fPre [4] (fFor (fiSq (fVarB 3)) (fgName 4) (fWipe [4] (fSeq (fIfS (ftB (fOp gNotIn2 (fVar 4) (fC (.str [48, 49, 50, 51, 52, 53, 54, 55, 56, 57])))) (fSeq (fRet (fC (.bl false)))
    (fNext)) (fNext))
    (fNext)))))
    (fSeq (fRet (fC (.bl true)))
    (fNext)))))
noncomputable def F__law_is_line : List D → O D := fDef 1 5 b__law_is_line
noncomputable def b__law_word : FS :=
    fSeq (fSet 2 (fC (.str [97, 98, 99, 100, 101, 102, 103, 104, 105, 106, 107, 108, 109, 110, 111, 112, 113, 114, 115, 116, 117, 118, 119, 120, 121, 122])))
    (fSeq (fSetZ 3 (fCall F__law_cell_at (fCons (fVar 0) (fCons (fC (.int 0)) (fNil)))))
    (fSeq (fSet 4 (fOp gAdd (fC (.int 3)) (fOp gMod (fVar 3) (fC (.int 7)))))
    (fSeq (fSet 5 (fOp gMod (fOp gDiv (fVar 3) (fC (.int 7))) (fVar 4)))
    (fSeq (fSet 6 (fC (.str [])))
    (fSeq (fPre [7, 8] (fFor (fiRng1 (fVar 4)) (fgName 7) (fWipe [7, 8] (fSeq (fSet 8 (fOp gAdd (fOp gDiv (fOp gDiv (fVar 3) (fC (.int 49))) (fOp gAdd (fVar 7) (fC (.int 1)))) (fOp gMul (fVar 7) (fVar 7))))
    (fSeq (fSet 6 (fOp gAdd (fVar 6) (fOp gIx2 (fVar 2) (fOp gMod (fOp gAdd (fVar 8) (fOp gMul (fVar 1) (fApp gInt (fCons (fOp gEq (fVar 7) (fVar 5)) (fNil))))) (fC (.int 26))))))
    (fNext))))))
    (fSeq (fIfS (ftB (fOp gEq (fOp gMod (fVar 1) (fC (.int 4))) (fC (.int 3)))) (fSeq (fRet (fSl (fVar 6) (foN) (foS (fOp gAdd (fC (.int 2)) (fOp gMod (fOp gDiv (fVar 3) (fC (.int 343))) (fOp (gI fun i j => i - j) (fVar 4) (fC (.int 2))))))))
    (fNext)) (fNext))
    (fSeq (fRet (fClo (fVar 6)))
    (fNext))))))))
noncomputable def F__law_word : List D → O D := fDef 2 9 b__law_word
/-! ### words out of a script -/
def letW (c : Int) (k j : Nat) : Nat := az.getD ((c / 49 / ((j : Int) + 1) + (j : Int) * (j : Int) + (k : Int) * (if (j : Int) = c / 7 % (3 + c % 7) then 1 else 0)) % 26).toNat 0
def fullW (c : Int) (k : Nat) : List Nat := (List.range (3 + c % 7).toNat).map (letW c k)
def wordT (c : Int) (k : Nat) : List Nat := if k % 4 = 3 then (fullW c k).take (2 + (c / 343 % ((3 + c % 7) - 2)).toNat) else fullW c k
theorem F_word (ns : List Int) (k : Nat) (hk : k ≤ 1000) : F__law_word [.ro (ns.map D.int), .int (k : Int)] = .ok (.str (wordT (cellAt ns 0) k)) := by
  have e := F_cell0 ns
  generalize hc : cellAt ns 0 = c at *
  have s1 := Int.emod_nonneg c (show (7 : Int) ≠ 0 by decide)
  have s2 := Int.emod_lt_of_pos c (show (0 : Int) < 7 by decide)
  obtain ⟨m, hm⟩ : ∃ m : Nat, 3 + c % 7 = (m : Int) := ⟨(3 + c % 7).toNat, by omega⟩
  have m1 : 3 ≤ m := by omega
  have m2 : m ≤ 9 := by omega
  have gm := gMod_int (i := c / 7) (j := (m : Int)) (by omega)
  have rg : rngO (.int (m : Int)) = .ok (rngD m) := rngO_nat (by omega)
  have fl : fullW c k = (List.range m).map (letW c k) := by unfold fullW; rw [hm]; rfl
  unfold F__law_word b__law_word
  walk_at "exs"
  refine step_out (loop_rng (fun i => [.bor (.ro (ns.map D.int)), .bor (.int (k : Int)), .own (.str az), .own (.int c), .own (.int (m : Int)), .own (.int (c / 7 % (m : Int))), .own (.str ((List.range i).map (letW c k))), .no, .no]) rfl (fun i hi => ?_) rfl) ?_
  · refine ⟨_, rfl, .inl ?_⟩
    have q1 := gDiv_int (i := c / 49) (j := (i : Int) + 1) (by omega) (by omega)
    have q2 : gMul (.int (i : Int)) (.int (i : Int)) = some (.int ((i : Int) * (i : Int))) := gMul_l (by omega) (by omega)
    have q3 : gMul (.int (k : Int)) (.int (if (i : Int) = c / 7 % (m : Int) then 1 else 0)) = some (.int ((k : Int) * (if (i : Int) = c / 7 % (m : Int) then 1 else 0))) := gMul_l (by omega) (by omega)
    have q4 := az_ix (c / 49 / ((i : Int) + 1) + (i : Int) * (i : Int) + (k : Int) * (if (i : Int) = c / 7 % (m : Int) then 1 else 0))
    have q5 : gAdd (.str ((List.range i).map (letW c k))) (.str [az.getD ((c / 49 / ((i : Int) + 1) + (i : Int) * (i : Int) + (k : Int) * (if (i : Int) = c / 7 % (m : Int) then 1 else 0)) % 26).toNat 0]) = some (.str ((List.range (i + 1)).map (letW c k))) := by
      rw [gAdd_str (by rw [List.length_map, List.length_range]; show i + 1 ≤ 16777216; omega), List.range_succ, List.map_append]
      show some (D.str (_ ++ [_])) = some (D.str (_ ++ [letW c k i]))
      unfold letW
      rw [hm]
    clear hm rg gm fl s1 s2
    walk_at "exs"
  · have lw : ((List.range m).map (letW c k)).length = m := by rw [List.length_map, List.length_range]
    by_cases h4 : k % 4 = 3
    · have q0 : (k : Int) % 4 = 3 := by omega
      obtain ⟨z, hz⟩ : ∃ z : Nat, 2 + c / 343 % ((m : Int) - 2) = (z : Int) := ⟨(2 + c / 343 % ((m : Int) - 2)).toNat, by
        have := Int.emod_nonneg (c / 343) (show (m : Int) - 2 ≠ 0 by omega)
        omega⟩
      have q1 := gMod_int (i := c / 343) (j := (m : Int) - 2) (by omega)
      have q2 : gSl (.str ((List.range m).map (letW c k))) none (some (z : Int)) = some (.str (((List.range m).map (letW c k)).take z)) := by
        show (@ite _ (((List.range m).map (letW c k)).length ≤ 16777216) (Classical.propDecidable _) (some (D.str (cutL ((List.range m).map (letW c k)) none (some (z : Int))))) none) = _
        rw [if_pos (by omega), cutL_to]
      have q3 : wordT c k = ((List.range m).map (letW c k)).take z := by
        unfold wordT
        rw [if_pos h4, fl, hm]
        congr 1
        have := Int.emod_nonneg (c / 343) (show (m : Int) - 2 ≠ 0 by omega)
        omega
      rw [q3]
      clear rg fl gm hm s1 s2 lw q3
      generalize (List.range m).map (letW c k) = t at *
      walk_at "exs"
    · have q0 : ¬ (k : Int) % 4 = 3 := by omega
      have q3 : wordT c k = (List.range m).map (letW c k) := by
        unfold wordT
        rw [if_neg h4, fl]
      rw [q3]
      clear rg fl gm hm s1 s2 lw q3
      walk_at "exs"
theorem wordT_ok (c : Int) (k : Nat) : isBW (wordT c k) = true := by
  have s1 := Int.emod_nonneg c (show (7 : Int) ≠ 0 by decide)
  have s2 := Int.emod_lt_of_pos c (show (0 : Int) < 7 by decide)
  have l1 : (fullW c k).length = (3 + c % 7).toNat := by unfold fullW; rw [List.length_map, List.length_range]
  have l2 : ∀ a ∈ fullW c k, a ∈ az := fun a ha => by
    obtain ⟨j, _, rfl⟩ := List.mem_map.mp ha
    exact az_get _
  have main : ∀ t : List Nat, 2 ≤ t.length → t.length ≤ 9 → (∀ a ∈ t, a ∈ az) → isBW t = true := fun t h1 h2 h3 => by
    unfold isBW
    rw [decide_eq_true ⟨h1, h2⟩, Bool.true_and, List.all_eq_true]
    exact fun a ha => decide_eq_true (h3 a ha)
  unfold wordT
  split
  · refine main _ ?_ ?_ fun a ha => l2 a (List.mem_of_mem_take ha)
    · rw [List.length_take, l1]
      have := Int.emod_nonneg (c / 343) (show (3 + c % 7) - 2 ≠ 0 by omega)
      omega
    · rw [List.length_take, l1]; omega
  · exact main _ (by rw [l1]; omega) (by rw [l1]; omega) l2
/-! ### lines parted -/
def prt (l : List Nat) : List Nat × List Nat × List Nat := (cpsL (Txt.partition (S l) (S [32])).1, cpsL (Txt.partition (S l) (S [32])).2.1, cpsL (Txt.partition (S l) (S [32])).2.2)
theorem sub_len (x : Str) (i j : Nat) : (cpsL (Builtin.Str.strSub x i j)).length ≤ (cpsL x).length := by
  unfold cpsL Builtin.Str.strSub
  rw [Array.length_toList, Array.length_toList, Array.size_extract]; omega
theorem sub_mem {x : Str} {i j a : Nat} (h : a ∈ cpsL (Builtin.Str.strSub x i j)) : a ∈ cpsL x := by
  unfold cpsL Builtin.Str.strSub at *
  rw [Array.toList_extract] at h
  exact List.mem_of_mem_drop (List.mem_of_mem_take h)
theorem prt_ok (l : List Nat) : (prt l).1.length ≤ l.length ∧ (prt l).2.2.length ≤ l.length ∧ (∀ a ∈ (prt l).1, a ∈ l) ∧ (∀ a ∈ (prt l).2.2, a ∈ l) ∧ ((prt l).2.1 = [32] ∨ (prt l).2.1 = [] ∧ (prt l).2.2 = []) := by
  have cl : cpsL (S l) = l := by unfold cpsL S; simp
  unfold prt Txt.partition
  cases Builtin.Str.occurrences (S l) (S [32]) 0 (S l).length 1 with
  | nil =>
    dsimp only
    rw [cl]
    exact ⟨Nat.le_refl _, by show 0 ≤ _; omega, fun a ha => ha, fun a ha => (by cases ha), .inr ⟨rfl, rfl⟩⟩
  | cons i r =>
    dsimp only
    have e1 := sub_len (S l) 0 i
    have e2 := sub_len (S l) (i + (S [32]).length) (S l).length
    rw [cl] at e1 e2
    exact ⟨e1, e2, fun a ha => by have := sub_mem ha; rwa [cl] at this, fun a ha => by have := sub_mem ha; rwa [cl] at this, .inl (by unfold cpsL S; simp)⟩
theorem gPart (l : List Nat) (h : l.length ≤ 16777216) : gPartition (.str l) (.str [32]) = some (.tup [.str (prt l).1, .str (prt l).2.1, .str (prt l).2.2]) := by
  show (@ite _ (([32] : List Nat) ≠ [] ∧ l.length ≤ 16777216) (Classical.propDecidable _) _ none) = _
  rw [if_pos ⟨by simp, h⟩]; rfl
/-- a worth's text -/
def nine : List Nat := [48, 49, 50, 51, 52, 53, 54, 55, 56, 57]
def isWt (p : List Nat) : Bool := decide (1 ≤ p.length ∧ p.length ≤ 60) && (!(decide (p.head? = some 48) && !decide (p = [48])) && p.all fun a => decide (a ∈ nine))
theorem F_isWt (p : List Nat) (hl : p.length ≤ 1000) (hs : ∀ a ∈ p, a < 1114112) : F_is_worth [.str p] = .ok (.bl (isWt p)) := by
  have g0 := gLen_str (l := p) (by omega)
  unfold isWt
  by_cases h : 1 ≤ p.length ∧ p.length ≤ 60
  · rw [decide_eq_true h, Bool.true_and]
    obtain ⟨a, q, rfl⟩ : ∃ a q, p = a :: q := by
      match p, h with
      | a :: q, _ => exact ⟨a, q, rfl⟩
    have h1 : (1 : Int) ≤ ((a :: q).length : Int) := by omega
    have h60 : ((a :: q).length : Int) ≤ 60 := by omega
    have ix : gIx2 (.str (a :: q)) (.int 0) = some (.str [a]) := by
      show gIx2 _ (.int ((0 : Nat) : Int)) = _
      rw [gIx2_str (by omega), atI_cast]; rfl
    have eq : gEq (.str [a]) (.str [48]) = some (.bl (decide (a = 48))) := by
      rw [gEq_of (shO_of 0 (by simpa [sh] using hs a (by simp))) (shO_of 0 (by simp [sh]))]
      congr 2
      rw [deq_str]
      simp
    have ne : gNe (.str (a :: q)) (.str [48]) = some (.bl (!decide (a :: q = [48]))) := by
      rw [gNe_of (shO_of 0 (by simpa [sh] using hs)) (shO_of 0 (by simp [sh]))]
      congr 2
      rw [deq_str]
    have e1 : decide ((a :: q).head? = some 48) = decide (a = 48) := by simp
    rw [e1]
    have ga := gAll_map (a :: q) fun a => decide (a ∈ nine)
    have lc : lcF (fgName 1) ftYes (fOp gIn2 (fVar 1) (fC (.str [48, 49, 50, 51, 52, 53, 54, 55, 56, 57]))) [.bor (.str (a :: q)), .no] ((a :: q).map fun a => D.str [a]) [] = .ok (.lst true ((a :: q).map fun a => D.bl (decide (a ∈ nine)))) := by
      refine lcF_map (g := fun a => D.str [a]) (f := fun a => D.bl (decide (a ∈ nine))) (fun x hx => ?_) (by omega)
      have gi : gIn2 (.str [x]) (.str nine) = some (.bl (decide (x ∈ nine))) := gIn2_sign x nine
      replace gi : gIn2 (.str [x]) (.str [48, 49, 50, 51, 52, 53, 54, 55, 56, 57]) = some (.bl (decide (x ∈ nine))) := gi
      refine ⟨_, rfl, rfl, ?_⟩
      clear ga e1 ix eq ne h1 h60 g0 h hx hs hl
      generalize decide (x ∈ nine) = bb at *
      walk_at "exs"
    have so : itemsOf (.str (a :: q)) = some ((a :: q).map fun a => D.str [a]) := by
      show some (signsOf (a :: q)) = _
      rw [signsOf_map]
    clear h hs hl e1
    unfold F_is_worth b_is_worth
    generalize ((a :: q).map fun a => D.bl (decide (a ∈ nine))) = AD at *
    generalize ((a :: q).all fun a => decide (a ∈ nine)) = ab at *
    generalize hA : (decide (a = 48)) = b1 at *
    generalize hB : (decide (a :: q = [48])) = b2 at *
    clear hA hB
    generalize ((a :: q).length : Int) = pl at *
    generalize (a :: q).map (fun a => D.str [a]) = SD at *
    generalize hp : a :: q = p at *
    cases b1
    · walk_at "exs"
    · cases b2
      · walk_at "exs"
      · walk_at "exs"
  · rw [decide_eq_false h, Bool.false_and]
    unfold F_is_worth b_is_worth
    by_cases h1 : (1 : Int) ≤ (p.length : Int)
    · have h60 : ¬ (p.length : Int) ≤ 60 := by omega
      clear h hs hl
      generalize (p.length : Int) = pl at *
      walk_at "exs"
    · clear h hs hl
      generalize (p.length : Int) = pl at *
      walk_at "exs"
theorem cut33 {A REST : FS} {env0 env1 : Env} {o : O D} (h1 : A env0 = .nx env1) (h2 : (REST env1).out = o) : (fSeq A REST env0).out = o := by
  rw [fSeq_e, h1]; exact h2
theorem F_lisline (l : List Nat) (hl : l.length ≤ 1000) (hs : ∀ a ∈ l, a < 1114112) : F__law_is_line [.str l] = .ok (.bl (isBW (prt l).1 && isWt (prt l).2.2)) := by
  obtain ⟨p1, p2, p3, p4, _⟩ := prt_ok l
  have gp := gPart l (by omega)
  have hs1 : ∀ a ∈ (prt l).1, a < 1114112 := fun a ha => hs a (p3 a ha)
  have hs2 : ∀ a ∈ (prt l).2.2, a < 1114112 := fun a ha => hs a (p4 a ha)
  have g1 := gLen_str (l := (prt l).1) (by omega)
  have g2 := gLen_str (l := (prt l).2.2) (by omega)
  generalize (prt l).2.1 = mid at *
  generalize hA : (prt l).1 = A at *
  generalize hB : (prt l).2.2 = B at *
  have so : ∀ l : List Nat, itemsOf (.str l) = some (l.map fun a => D.str [a]) := fun l => by
    show some (signsOf l) = _
    rw [signsOf_map]
  have soA := so A
  have soB := so B
  unfold F__law_is_line b__law_is_line
  by_cases h2 : 2 ≤ A.length ∧ A.length ≤ 9
  · have a1 : (2 : Int) ≤ (A.length : Int) := by omega
    have a2 : (A.length : Int) ≤ 9 := by omega
    have eA : isBW A = A.all fun a => decide (a ∈ az) := by
      unfold isBW
      rw [decide_eq_true h2, Bool.true_and]
    rw [eA]
    by_cases h6 : 1 ≤ B.length ∧ B.length ≤ 60
    · have b1 : (1 : Int) ≤ (B.length : Int) := by omega
      have b2 : (B.length : Int) ≤ 60 := by omega
      obtain ⟨b, q, rfl⟩ : ∃ b q, B = b :: q := by
        match B, h6 with
        | a :: q, _ => exact ⟨a, q, rfl⟩
      have ix : gIx2 (.str (b :: q)) (.int 0) = some (.str [b]) := by
        show gIx2 _ (.int ((0 : Nat) : Int)) = _
        rw [gIx2_str (by omega), atI_cast]; rfl
      have eq : gEq (.str [b]) (.str [48]) = some (.bl (decide (b = 48))) := by
        rw [gEq_of (shO_of 0 (by simpa [sh] using hs2 b (by simp))) (shO_of 0 (by simp [sh]))]
        congr 2
        rw [deq_str]
        simp
      have ne : gNe (.str (b :: q)) (.str [48]) = some (.bl (!decide (b :: q = [48]))) := by
        rw [gNe_of (shO_of 0 (by simpa [sh] using hs2)) (shO_of 0 (by simp [sh]))]
        congr 2
        rw [deq_str]
      have eB : isWt (b :: q) = (!(decide (b = 48) && !decide (b :: q = [48])) && (b :: q).all fun a => decide (a ∈ nine)) := by
        unfold isWt
        rw [decide_eq_true h6, Bool.true_and]
        simp
      rw [eB]
      have loops : ∀ (k : Bool), k = (!(decide (b = 48) && !decide (b :: q = [48]))) → k = true → ((fSeq (fPre [4] (fFor (fiSq (fVarB 1)) (fgName 4) (fWipe [4] (fSeq (fIfS (ftB (fOp gNotIn2 (fVar 4) (fC (.str [97, 98, 99, 100, 101, 102, 103, 104, 105, 106, 107, 108, 109, 110, 111, 112, 113, 114, 115, 116, 117, 118, 119, 120, 121, 122])))) (fSeq (fRet (fC (.bl false)))
    (fNext)) (fNext))
    (fNext)))))
    (fSeq (fPre [4] (fFor (fiSq (fVarB 3)) (fgName 4) (fWipe [4] (fSeq (fIfS (ftB (fOp gNotIn2 (fVar 4) (fC (.str [48, 49, 50, 51, 52, 53, 54, 55, 56, 57])))) (fSeq (fRet (fC (.bl false)))
    (fNext)) (fNext))
    (fNext)))))
    (fSeq (fRet (fC (.bl true)))
    (fNext)))) [.bor (.str l), .own (.str A), .own (.str mid), .own (.str (b :: q)), .no]).out = .ok (.bl ((A.all fun a => decide (a ∈ az)) && ((b :: q).all fun a => decide (a ∈ nine)))) := fun _ _ _ => by
        clear eB eA ix eq ne b1 b2 a1 a2 h2 h6 hA hB gp g1 g2 p1 p2 p3 p4 hs hl
        generalize b :: q = B at *
        walk_at "exs"
        refine find_outB (f := fun a => D.str [a]) (fun a => !decide (a ∈ az)) (fun _ => O.ok (D.bl false)) (fun a ha => ?_) (fun hf => ?_) (fun x hf => ?_)
        · have ni : gNotIn2 (.str [a]) (.str az) = some (.bl (!decide (a ∈ az))) := gNotIn2_sign a az
          refine ⟨_, rfl, fun z0 => ?_, fun z0 => ?_⟩
          · rw [z0] at ni
            clear ha z0 soA soB
            walk_at "exs"
          · rw [z0] at ni
            clear ha z0 soA soB
            walk_at "exs"
            trivial
        · have e : (A.all fun a => decide (a ∈ az)) = true := List.all_eq_true.mpr fun x hx => by
            have := List.find?_eq_none.mp hf x hx
            simpa using this
          rw [e, Bool.true_and]
          walk_at "exs"
          refine find_outB (f := fun a => D.str [a]) (fun a => !decide (a ∈ nine)) (fun _ => O.ok (D.bl false)) (fun a ha => ?_) (fun hf => ?_) (fun x hf => ?_)
          · have ni : gNotIn2 (.str [a]) (.str nine) = some (.bl (!decide (a ∈ nine))) := gNotIn2_sign a nine
            replace ni : gNotIn2 (.str [a]) (.str [48, 49, 50, 51, 52, 53, 54, 55, 56, 57]) = some (.bl (!decide (a ∈ nine))) := ni
            refine ⟨_, rfl, fun z0 => ?_, fun z0 => ?_⟩
            · rw [z0] at ni
              clear ha z0 soA soB
              walk_at "exs"
            · rw [z0] at ni
              clear ha z0 soA soB
              walk_at "exs"
              trivial
          · have e : (B.all fun a => decide (a ∈ nine)) = true := List.all_eq_true.mpr fun x hx => by
              have := List.find?_eq_none.mp hf x hx
              simpa using this
            rw [e]
            walk_at "exs"
          · have h1 := List.find?_some hf
            have h2 := List.mem_of_find?_eq_some hf
            have e : (B.all fun a => decide (a ∈ nine)) = false := List.all_eq_false.mpr ⟨x, h2, by simpa using h1⟩
            rw [e]
        · have h1 := List.find?_some hf
          have h2 := List.mem_of_find?_eq_some hf
          have e : (A.all fun a => decide (a ∈ az)) = false := List.all_eq_false.mpr ⟨x, h2, by simpa using h1⟩
          rw [e, Bool.false_and]
      have lp := loops _ rfl
      clear loops eB eA h2 h6 hA hB hs hl p1 p2 p3 p4 hs1 hs2 so soA soB
      generalize ((b :: q).all fun a => decide (a ∈ nine)) = ab at *
      generalize (A.all fun a => decide (a ∈ az)) = aa at *
      generalize hC : (decide (b = 48)) = c1 at *
      generalize hD : (decide (b :: q = [48])) = c2 at *
      clear hC hD
      generalize ((b :: q).length : Int) = pl at *
      generalize b :: q = B at *
      generalize (A.length : Int) = al at *
      cases c1
      · rw [fDef_e 1 5 _ _ rfl]
        have lp := lp rfl
        refine cut33 (env1 := [.bor (.str l), .own (.str A), .own (.str mid), .own (.str B), .no]) ?_ (cut33 (env1 := [.bor (.str l), .own (.str A), .own (.str mid), .own (.str B), .no]) ?_ lp)
        · clear lp
          walk_at "exs"
        · clear lp gp
          walk_at "exs"
      · cases c2
        · clear lp
          cases aa <;> walk_at "exs"
        · have lp := lp rfl
          rw [fDef_e 1 5 _ _ rfl]
          refine cut33 (env1 := [.bor (.str l), .own (.str A), .own (.str mid), .own (.str B), .no]) ?_ (cut33 (env1 := [.bor (.str l), .own (.str A), .own (.str mid), .own (.str B), .no]) ?_ lp)
          · clear lp
            walk_at "exs"
          · clear lp gp
            walk_at "exs"
    · have eB : isWt B = false := by unfold isWt; rw [decide_eq_false h6, Bool.false_and]
      rw [eB, Bool.and_false]
      by_cases b1 : (1 : Int) ≤ (B.length : Int)
      · have b2 : ¬ (B.length : Int) ≤ 60 := by omega
        clear h2 h6 hA hB hs hl p1 p2 p3 p4 hs1 hs2 so soA soB eA eB
        generalize (B.length : Int) = bl at *
        generalize (A.length : Int) = al at *
        walk_at "exs"
      · clear h2 h6 hA hB hs hl p1 p2 p3 p4 hs1 hs2 so soA soB eA eB
        generalize (B.length : Int) = bl at *
        generalize (A.length : Int) = al at *
        walk_at "exs"
  · have eA : isBW A = false := by unfold isBW; rw [decide_eq_false h2, Bool.false_and]
    rw [eA, Bool.false_and]
    by_cases a1 : (2 : Int) ≤ (A.length : Int)
    · have a2 : ¬ (A.length : Int) ≤ 9 := by omega
      clear h2 hA hB hs hl p1 p2 p3 p4 hs1 hs2 so soA soB eA
      generalize (A.length : Int) = al at *
      walk_at "exs"
    · clear h2 hA hB hs hl p1 p2 p3 p4 hs1 hs2 so soA soB eA
      generalize (A.length : Int) = al at *
      walk_at "exs"
noncomputable def b__law_odd : FS :=
    fSeq (fSetZ 3 (fCall F__law_word (fCons (fVar 0) (fCons (fC (.int 30)) (fNil)))))
    (fSeq (fSet 4 (fApp gLst' (fCons (fC (.str [])) (fCons (fClo (fVar 3)) (fCons (fOp gAdd (fVar 3) (fC (.str [32, 32, 55]))) (fCons (fOp gAdd (fVar 3) (fC (.str [32, 55, 32]))) (fCons (fOp gAdd (fOp gAdd (fC (.str [32])) (fVar 3)) (fC (.str [32, 55]))) (fCons (fOp gAdd (fSl (fVar 3) (foN) (foS (fC (.int 1)))) (fC (.str [32, 55]))) (fCons (fOp gAdd (fVar 3) (fC (.str [32, 48, 55]))) (fCons (fOp gAdd (fVar 3) (fC (.str [32, 45, 55]))) (fNil)))))))))))
    (fSeq (fSet 4 (fOp gAdd (fVar 4) (fApp gLst' (fCons (fOp gAdd (fVar 3) (fC (.str [32]))) (fCons (fOp gAdd (fVar 3) (fC (.str [32, 55, 32, 55]))) (fCons (fOp gAdd (fM0 (gText 5592405 Txt.upper) (fVar 3)) (fC (.str [32, 55]))) (fCons (fOp gAdd (fOp gAdd (fVar 3) (fC (.str [32]))) (fOp gMulS (fC (.str [55])) (fC (.int 61)))) (fCons (fOp gAdd (fVar 3) (fC (.str [32, 43, 55]))) (fCons (fOp gAdd (fVar 3) (fC (.str [32, 55, 97]))) (fNil))))))))))
    (fSeq (fSet 4 (fOp gAdd (fVar 4) (fApp gLst' (fCons (fOp gAdd (fVar 3) (fC (.str [97, 98, 99, 100, 101, 102, 103, 104, 32, 55]))) (fCons (fOp gAdd (fVar 3) (fC (.str [95, 55]))) (fCons (fClo (fOp gIx2 (fVar 2) (fOp gMod (fOp gDiv (fVar 1) (fC (.int 17))) (fApp gLen (fCons (fVar 2) (fNil)))))) (fCons (fOp gAdd (fVar 3) (fC (.str [32, 48]))) (fNil))))))))
    (fSeq (fAppend 4 (fOp gAdd (fOp gAdd (fVar 3) (fC (.str [32]))) (fOp gMulS (fC (.str [57])) (fC (.int 60)))))
    (fSeq (fRet (fClo (fOp gIx2 (fVar 4) (fOp gMod (fVar 1) (fC (.int 19))))))
    (fNext))))))
noncomputable def F__law_odd : List D → O D := fDef 3 5 b__law_odd
noncomputable def b__law_random : FS :=
    fSeq (fSet 1 (fC (.str [])))
    (fSeq (fSet 2 (fOp gAdd (fOp gMod (fVar 0) (fC (.int 2147483647))) (fC (.int 1))))
    (fSeq (fPre [3] (fFor (fiRng1 (fOp gAdd (fC (.int 2)) (fOp gMod (fVar 0) (fC (.int 8))))) (fgName 3) (fWipe [3] (fSeq (fSet 2 (fOp gMod (fOp gMul (fVar 2) (fC (.int 48271))) (fC (.int 2147483647))))
    (fSeq (fSet 1 (fOp gAdd (fVar 1) (fOp gIx2 (fC (.str [97, 98, 99, 100, 101, 102, 103, 104, 105, 106, 107, 108, 109, 110, 111, 112, 113, 114, 115, 116, 117, 118, 119, 120, 121, 122])) (fOp gMod (fOp gDiv (fVar 2) (fC (.int 7))) (fC (.int 26))))))
    (fNext))))))
    (fSeq (fRet (fClo (fVar 1)))
    (fNext))))
noncomputable def F__law_random : List D → O D := fDef 1 4 b__law_random
noncomputable def b__law_line : FS :=
    fSeq (fSetZ 2 (fCall F__law_random (fCons (fVar 1) (fNil))))
    (fSeq (fIfS (ftB (fOp gEq (fOp gMod (fVar 1) (fC (.int 16))) (fC (.int 3)))) (fSeq (fSetZ 2 (fCall F__law_word (fCons (fVar 0) (fCons (fOp gMod (fOp gDiv (fVar 1) (fC (.int 16))) (fC (.int 24))) (fNil)))))
    (fNext)) (fNext))
    (fSeq (fSetZ 3 (fApp gStr (fCons (fOp gMod (fOp gDiv (fVar 1) (fC (.int 24))) (fOp gIx2 (fApp gLst' (fCons (fC (.int 10)) (fCons (fC (.int 1000)) (fCons (fOp gPow (fC (.int 10)) (fC (.int 60))) (fNil))))) (fOp gMod (fOp gDiv (fVar 1) (fC (.int 24))) (fC (.int 3))))) (fNil))))
    (fSeq (fRet (fOp gAdd (fOp gAdd (fVar 2) (fC (.str [32]))) (fVar 3)))
    (fNext))))
noncomputable def F__law_line : List D → O D := fDef 2 4 b__law_line
noncomputable def b__law_lines : FS :=
    fSeq (fSetZ 1 (fLc (fiSq (fSl (fVar 0) (foS (fC (.int 1))) (foS (fC (.int 41))))) (fgName 2) (ftYes) (fCall F__law_line (fCons (fVar 0) (fCons (fVar 2) (fNil)))) [2]))
    (fSeq (fSet 2 (fOp gDiv (fCall F__law_cell_at (fCons (fVar 0) (fCons (fC (.int 0)) (fNil)))) (fC (.int 2401))))
    (fSeq (fIfS (ftAnd (ftB (fOp gNe (fVar 1) (fApp gLst' (fNil)))) (ftB (fOp gEq (fOp gMod (fVar 2) (fC (.int 2))) (fC (.int 1))))) (fSeq (fSet 3 (fOp gMod (fOp gDiv (fVar 2) (fC (.int 2))) (fOp gAdd (fApp gLen (fCons (fVar 1) (fNil))) (fC (.int 1)))))
    (fSeq (fSetZ 1 (fOp gAdd (fOp gAdd (fSl (fVar 1) (foN) (foS (fVar 3))) (fApp gLst' (fCons (fCall F__law_odd (fCons (fVar 0) (fCons (fOp gDiv (fVar 2) (fC (.int 82))) (fCons (fVar 1) (fNil))))) (fNil)))) (fSl (fVar 1) (foS (fVar 3)) (foN))))
    (fNext))) (fNext))
    (fSeq (fRet (fClo (fVar 1)))
    (fNext))))
noncomputable def F__law_lines : List D → O D := fDef 1 4 b__law_lines
/-! ### the lines of a script -/
def TxOk (l : List Nat) : Prop := l.length ≤ 100 ∧ ∀ a ∈ l, a < 128 ∧ a ≠ 10
theorem az_tx : ∀ a ∈ az, a < 128 ∧ a ≠ 10 := by decide
theorem up_all19 : ∀ (l : List Nat), (∀ a ∈ l, a < 128 ∧ a ≠ 10) → (cpsL (Txt.upper (S l))).length = l.length ∧ ∀ a ∈ cpsL (Txt.upper (S l)), a < 128 ∧ a ≠ 10
  | [], _ => by
    have : cpsL (Txt.upper (S [])) = [] := by decide +kernel
    rw [this]; simp
  | c :: l, h => by
    obtain ⟨h1, h2⟩ := up_all19 l fun a ha => h a (by simp [ha])
    have hc := h c (by simp)
    have e : S (c :: l) = S [c] ++ S l := by
      apply PySem.Str.ext'
      rw [PySem.Str.cps_append]
      simp [S]
    have e1 : Txt.upper (S [c]) = ⟨#[if 97 ≤ c ∧ c ≤ 122 then c - 32 else c]⟩ := PySem.W.KOpn.upper_one hc.1
    have e2 : cpsL (Txt.upper (S (c :: l))) = (if 97 ≤ c ∧ c ≤ 122 then c - 32 else c) :: cpsL (Txt.upper (S l)) := by
      rw [e, PySem.W.KOpn.upper_app, e1]
      unfold cpsL
      rw [PySem.Str.cps_append]
      simp
    rw [e2]
    refine ⟨by rw [List.length_cons, List.length_cons, h1], fun a ha => ?_⟩
    rcases List.mem_cons.mp ha with q | q
    · subst q
      split <;> omega
    · exact h2 a q
theorem gUp (l : List Nat) (h : l.length ≤ 1000) : gText 5592405 Txt.upper (.str l) = some (.str (cpsL (Txt.upper (S l)))) := by
  show (@ite _ (l.length ≤ 5592405) (Classical.propDecidable _) (some (D.str (cpsL (Txt.upper (S l))))) none) = _
  rw [if_pos (by omega)]
theorem gStr_big {v : Nat} (h : v < 10 ^ 60) : gStr [.int (v : Int)] = some (.str (TL.numL v)) := by
  show (if (v : Int).natAbs.log2 < 1920 then some (D.str (strI (v : Int))) else none) = _
  have e : (v : Int).natAbs = v := by simp
  rw [e, if_pos]
  · congr 2
    exact TL.tl_num v
  · by_cases z : v = 0
    · subst z; decide
    · exact Nat.lt_of_lt_of_le ((Nat.log2_lt z).mpr (Nat.lt_of_lt_of_le h (show 10 ^ 60 ≤ 2 ^ 200 by decide))) (by decide)
theorem F_random (c : Int) : ∃ w, F__law_random [.int c] = .ok (.str w) ∧ w.length ≤ 9 ∧ (∀ a ∈ w, a ∈ az) ∧ w ≠ [] := by
  have m0 := Int.emod_nonneg c (show (8 : Int) ≠ 0 by decide)
  have m1 := Int.emod_lt_of_pos c (show (0 : Int) < 8 by decide)
  obtain ⟨n, hn⟩ : ∃ n : Nat, 2 + c % 8 = (n : Int) := ⟨(2 + c % 8).toNat, by omega⟩
  have n2 : 2 ≤ n := by omega
  have n9 : n ≤ 9 := by omega
  have rg : rngO (.int (n : Int)) = .ok (rngD n) := rngO_nat (by omega)
  have ga : gAdd (.int 2) (.int (c % 8)) = some (.int (n : Int)) := by rw [← hn]; rfl
  obtain ⟨x, lo, w, z, hw, haz, hx⟩ := loop_invB (fg := fgName 3) (fb := fWipe [3] (fSeq (fSet 2 (fOp gMod (fOp gMul (fVar 2) (fC (.int 48271))) (fC (.int 2147483647))))
    (fSeq (fSet 1 (fOp gAdd (fVar 1) (fOp gIx2 (fC (.str az)) (fOp gMod (fOp gDiv (fVar 2) (fC (.int 7))) (fC (.int 26))))))
    (fNext)))) (fun i env => ∃ (w : List Nat) (z : Int), w.length = i ∧ (∀ a ∈ w, a ∈ az) ∧ env = [.bor (.int c), .own (.str w), .own (.int z), .no]) (rngD n) 0 [.bor (.int c), .own (.str []), .own (.int (c % 2147483647 + 1)), .no] ⟨[], _, rfl, by simp, rfl⟩ (fun i d env hd hK => by
      obtain ⟨w, z, hw, haz, rfl⟩ := hK
      rw [Nat.zero_add] at hw ⊢
      obtain ⟨hi, rfl⟩ := rngD_get hd
      have q4 := az_ix (z * 48271 % 2147483647 / 7)
      have q5 : gMul (.int z) (.int 48271) = some (.int (z * 48271)) := gMul_r (by omega) (by omega)
      have q6 : gAdd (.str w) (.str [az.getD (z * 48271 % 2147483647 / 7 % 26).toNat 0]) = some (.str (w ++ [az.getD (z * 48271 % 2147483647 / 7 % 26).toNat 0])) := gAdd_str (by rw [List.length_singleton]; omega)
      have q7 := az_get (z * 48271 % 2147483647 / 7)
      generalize az.getD (z * 48271 % 2147483647 / 7 % 26).toNat 0 = a at *
      refine ⟨_, [.bor (.int c), .own (.str (w ++ [a])), .own (.int (z * 48271 % 2147483647)), .no], rfl, .inl ?_, w ++ [a], _, by rw [List.length_append, List.length_singleton, hw], fun x hx => ?_, rfl⟩
      · clear hw haz q7 hn ga rg m0 m1 hi hd
        walk_at "exs"
      · rcases List.mem_append.mp hx with y | y
        · exact haz x y
        · rw [List.mem_singleton.mp y]; exact q7)
  rw [rngD_len, Nat.zero_add] at hw
  subst hx
  refine ⟨w, ?_, by omega, haz, fun e => by rw [e] at hw; simp at hw; omega⟩
  unfold F__law_random b__law_random
  clear hw haz m0 m1 hn n2 n9
  walk_at "exs"
theorem F_linek (ns : List Int) (c : Int) : ∃ l, F__law_line [.ro (ns.map D.int), .int c] = .ok (.str l) ∧ TxOk l ∧ l ≠ [] := by
  obtain ⟨w0, f0, l0, a0, _⟩ := F_random c
  have k0 := Int.emod_nonneg (c / 16) (show (24 : Int) ≠ 0 by decide)
  have k1 := Int.emod_lt_of_pos (c / 16) (show (0 : Int) < 24 by decide)
  obtain ⟨k, hk⟩ : ∃ k : Nat, c / 16 % 24 = (k : Int) := ⟨(c / 16 % 24).toNat, by omega⟩
  have fw := F_word ns k (by omega)
  rw [← hk] at fw
  have hb := wordT_ok (cellAt ns 0) k
  have hbl := isBW_len hb
  have hba : ∀ a ∈ wordT (cellAt ns 0) k, a ∈ az := fun a ha => by
    unfold isBW at hb
    rw [Bool.and_eq_true, List.all_eq_true] at hb
    exact of_decide_eq_true (hb.2 a ha)
  generalize wordT (cellAt ns 0) k = W at *
  obtain ⟨w, hw, hwl, hwa⟩ : ∃ w, ((c % 16 = 3 → w = W) ∧ (¬ c % 16 = 3 → w = w0)) ∧ w.length ≤ 9 ∧ ∀ a ∈ w, a ∈ az := by
    by_cases q : c % 16 = 3
    · exact ⟨W, ⟨fun _ => rfl, fun z => absurd q z⟩, hbl, hba⟩
    · exact ⟨w0, ⟨fun z => absurd z q, fun _ => rfl⟩, l0, a0⟩
  -- the worth
  have m0 := Int.emod_nonneg (c / 24) (show (3 : Int) ≠ 0 by decide)
  have m1 := Int.emod_lt_of_pos (c / 24) (show (0 : Int) < 3 by decide)
  have g3 : ∀ a b c : D, gLst' [a, b, c] = some (.lst true [a, b, c]) := fun a b c => gLst_ok (by simp)
  have gp : gPow (.int 10) (.int 60) = some (.int (10 ^ 60)) := by
    show @ite _ ((0 : Int) ≤ 60 ∧ (60 : Int) ≤ 1000000 ∧ (10 : Int).natAbs < 18446744073709551616) (Classical.propDecidable _) (some (D.int (10 ^ (60 : Int).toNat))) none = _
    rw [if_pos ⟨by decide, by decide, by decide⟩]
    rfl
  obtain ⟨b, ix, b0, b60⟩ : ∃ b : Int, gIx2 (.lst true [.int 10, .int 1000, .int (10 ^ 60)]) (.int (c / 24 % 3)) = some (.int b) ∧ 0 < b ∧ b ≤ 10 ^ 60 := by
    rcases (show c / 24 % 3 = 0 ∨ c / 24 % 3 = 1 ∨ c / 24 % 3 = 2 by omega) with e | e | e <;> rw [e]
    · exact ⟨10, rfl, by decide, by decide⟩
    · exact ⟨1000, rfl, by decide, by decide⟩
    · exact ⟨10 ^ 60, rfl, by decide, by decide⟩
  have gm : gMod (.int (c / 24)) (.int b) = some (.int (c / 24 % b)) := gMod_int (by omega)
  have v0 := Int.emod_nonneg (c / 24) (show b ≠ 0 by omega)
  have v1 := Int.emod_lt_of_pos (c / 24) b0
  obtain ⟨v, hv⟩ : ∃ v : Nat, c / 24 % b = (v : Int) := ⟨(c / 24 % b).toNat, by omega⟩
  rw [hv] at gm v1
  have v60 : v < 10 ^ 60 := by omega
  have gs := gStr_big v60
  have dl := TL.numL_len (n := v) (k := 60) (by decide) v60
  have da : ∀ a ∈ TL.numL v, a < 128 ∧ a ≠ 10 := fun a ha => by
    have := TL.numL_digits v a ha
    omega
  generalize TL.numL v = V at *
  have a1 : gAdd (.str w) (.str [32]) = some (.str (w ++ [32])) := gAdd_str (by rw [List.length_singleton]; omega)
  have a2 : gAdd (.str (w ++ [32])) (.str V) = some (.str (w ++ [32] ++ V)) := gAdd_str (by rw [List.length_append, List.length_singleton]; omega)
  refine ⟨w ++ [32] ++ V, ?_, ⟨by rw [List.length_append, List.length_append, List.length_singleton]; omega, fun a ha => ?_⟩, by simp⟩
  · unfold F__law_line b__law_line
    by_cases q : c % 16 = 3
    · obtain rfl := hw.1 q
      clear hw hwl hwa l0 a0 k0 k1 hk hb hbl hba m0 m1 b0 b60 v0 v1 hv v60 dl da
      generalize w ++ [32] ++ V = R at *
      generalize w ++ [32] = R1 at *
      generalize (10 : Int) ^ 60 = t at *
      walk_at "exs"
    · obtain rfl := hw.2 q
      clear hw hwl hwa l0 a0 k0 k1 hk hb hbl hba m0 m1 b0 b60 v0 v1 hv v60 dl da
      generalize w ++ [32] ++ V = R at *
      generalize w ++ [32] = R1 at *
      generalize (10 : Int) ^ 60 = t at *
      walk_at "exs"
  · rcases List.mem_append.mp ha with y | y
    · rcases List.mem_append.mp y with y | y
      · exact az_tx a (hwa a y)
      · rw [List.mem_singleton.mp y]; decide
    · exact da a y
theorem F_oddk (ns : List Int) (c : Int) {ls : List (List Nat)} (hne : ls ≠ []) (hls : ∀ l ∈ ls, TxOk l) (hl41 : ls.length ≤ 41) : ∃ l, F__law_odd [.ro (ns.map D.int), .int c, .lst false (ls.map .str)] = .ok (.str l) ∧ TxOk l := by
  have fw : F__law_word [.ro (ns.map D.int), .int 30] = .ok (.str (wordT (cellAt ns 0) 30)) := F_word ns 30 (by omega)
  have hb := wordT_ok (cellAt ns 0) 30
  have hbl := isBW_len hb
  have hba : ∀ a ∈ wordT (cellAt ns 0) 30, a < 128 ∧ a ≠ 10 := fun a ha => by
    unfold isBW at hb
    rw [Bool.and_eq_true, List.all_eq_true] at hb
    exact az_tx a (of_decide_eq_true (hb.2 a ha))
  generalize wordT (cellAt ns 0) 30 = W at *
  clear hb
  have gu := gUp W (by omega)
  obtain ⟨ul, ua⟩ := up_all19 W hba
  generalize cpsL (Txt.upper (S W)) = U at *
  have ga : ∀ m : List Nat, m.length ≤ 80 → gAdd (.str W) (.str m) = some (.str (W ++ m)) := fun m h => gAdd_str (by omega)
  have s1 : gSl (.str W) none (some 1) = some (.str (W.take 1)) := gSl_strto (k := 1) (by omega)
  have r61 : gMulS (.str [55]) (.int 61) = some (.str (List.replicate 61 55)) := by
    rw [gMulS_str (by decide) (by decide) (by decide)]; rfl
  have r60 : gMulS (.str [57]) (.int 60) = some (.str (List.replicate 60 57)) := by
    rw [gMulS_str (by decide) (by decide) (by decide)]; rfl
  have m0 := Int.emod_nonneg (c / 17) (show (ls.length : Int) ≠ 0 by have := List.length_pos_iff.mpr hne; omega)
  have hp := List.length_pos_iff.mpr hne
  have m1 := Int.emod_lt_of_pos (c / 17) (show (0 : Int) < (ls.length : Int) by omega)
  obtain ⟨j, hj⟩ : ∃ j : Nat, c / 17 % (ls.length : Int) = (j : Int) := ⟨(c / 17 % (ls.length : Int)).toNat, by omega⟩
  rw [hj] at m1
  have gl : gLen [.lst false (ls.map D.str)] = some (.int (ls.length : Int)) := by rw [gLen_lst, List.length_map]
  have gm : gMod (.int (c / 17)) (.int (ls.length : Int)) = some (.int (j : Int)) := by rw [gMod_int (by omega), hj]
  obtain ⟨X, hX⟩ : ∃ X, ls[j]? = some X := ⟨_, List.getElem?_eq_getElem (by omega)⟩
  have ixX : gIx2 (.lst false (ls.map D.str)) (.int (j : Int)) = some (.str X) := by rw [gIx2_lst, atI_cast, List.getElem?_map, hX]; rfl
  have txX := hls X (List.mem_of_getElem? hX)
  have c1 := ga [32, 32, 55] (by decide)
  have c2 := ga [32, 55, 32] (by decide)
  have c3 : gAdd (.str [32]) (.str W) = some (.str ([32] ++ W)) := gAdd_str (by rw [List.length_singleton]; omega)
  have c4 : gAdd (.str ([32] ++ W)) (.str [32, 55]) = some (.str ([32] ++ W ++ [32, 55])) := gAdd_str (by rw [List.length_append, List.length_singleton]; show 1 + W.length + 2 ≤ _; omega)
  have c5 : gAdd (.str (W.take 1)) (.str [32, 55]) = some (.str (W.take 1 ++ [32, 55])) := gAdd_str (by rw [List.length_take]; show _ + 2 ≤ _; omega)
  have c6 := ga [32, 48, 55] (by decide)
  have c7 := ga [32, 45, 55] (by decide)
  have c8 := ga [32] (by decide)
  have c9 := ga [32, 55, 32, 55] (by decide)
  have c10 : gAdd (.str U) (.str [32, 55]) = some (.str (U ++ [32, 55])) := gAdd_str (by show U.length + 2 ≤ _; omega)
  have c11 : gAdd (.str (W ++ [32])) (.str (List.replicate 61 55)) = some (.str (W ++ [32] ++ List.replicate 61 55)) := gAdd_str (by rw [List.length_append, List.length_singleton, List.length_replicate]; omega)
  have c12 := ga [32, 43, 55] (by decide)
  have c13 := ga [32, 55, 97] (by decide)
  have c14 := ga [97, 98, 99, 100, 101, 102, 103, 104, 32, 55] (by decide)
  have c15 := ga [95, 55] (by decide)
  have c16 := ga [32, 48] (by decide)
  have c17 : gAdd (.str (W ++ [32])) (.str (List.replicate 60 57)) = some (.str (W ++ [32] ++ List.replicate 60 57)) := gAdd_str (by rw [List.length_append, List.length_singleton, List.length_replicate]; omega)
  have tk : ∀ a ∈ W.take 1, a < 128 ∧ a ≠ 10 := fun a ha => hba a (List.mem_of_mem_take ha)
  have tl : (W.take 1).length ≤ 9 := by rw [List.length_take]; omega
  -- what may come
  have T : ∀ l ∈ ([[], W, W ++ [32, 32, 55], W ++ [32, 55, 32], [32] ++ W ++ [32, 55], W.take 1 ++ [32, 55], W ++ [32, 48, 55], W ++ [32, 45, 55], W ++ [32], W ++ [32, 55, 32, 55], U ++ [32, 55], W ++ [32] ++ List.replicate 61 55, W ++ [32, 43, 55], W ++ [32, 55, 97],
      W ++ [97, 98, 99, 100, 101, 102, 103, 104, 32, 55], W ++ [95, 55], X, W ++ [32, 48], W ++ [32] ++ List.replicate 60 57] : List (List Nat)), TxOk l := by
    have pl : ∀ (A m : List Nat), A.length ≤ 12 → (∀ a ∈ A, a < 128 ∧ a ≠ 10) → m.length ≤ 70 → (∀ a ∈ m, a < 128 ∧ a ≠ 10) → TxOk (A ++ m) := fun A m h1 h2 h3 h4 => ⟨by rw [List.length_append]; omega, fun a ha => (List.mem_append.mp ha).elim (h2 a) (h4 a)⟩
    have w32 : ∀ a ∈ W ++ [32], a < 128 ∧ a ≠ 10 := fun a ha => (List.mem_append.mp ha).elim (hba a) (fun q => by rw [List.mem_singleton.mp q]; decide)
    have l32 : (W ++ [32]).length ≤ 12 := by rw [List.length_append, List.length_singleton]; omega
    have w33 : ∀ a ∈ [32] ++ W, a < 128 ∧ a ≠ 10 := fun a ha => (List.mem_append.mp ha).elim (fun q => by rw [List.mem_singleton.mp q]; decide) (hba a)
    have l33 : ([32] ++ W).length ≤ 12 := by rw [List.length_append, List.length_singleton]; omega
    have rep : ∀ n k : Nat, k < 128 → k ≠ 10 → ∀ a ∈ List.replicate n k, a < 128 ∧ a ≠ 10 := fun n k h1 h2 a ha => by
      rw [List.eq_of_mem_replicate ha]; exact ⟨h1, h2⟩
    intro l hl
    simp only [List.mem_cons, List.not_mem_nil, or_false] at hl
    rcases hl with rfl | rfl | rfl | rfl | rfl | rfl | rfl | rfl | rfl | rfl | rfl | rfl | rfl | rfl | rfl | rfl | rfl | rfl | rfl
    · exact ⟨by simp, by simp⟩
    · exact ⟨by omega, hba⟩
    · exact pl _ _ (by omega) hba (by decide) (by decide)
    · exact pl _ _ (by omega) hba (by decide) (by decide)
    · exact pl _ _ l33 w33 (by decide) (by decide)
    · exact pl _ _ (by omega) tk (by decide) (by decide)
    · exact pl _ _ (by omega) hba (by decide) (by decide)
    · exact pl _ _ (by omega) hba (by decide) (by decide)
    · exact pl _ _ (by omega) hba (by decide) (by decide)
    · exact pl _ _ (by omega) hba (by decide) (by decide)
    · exact pl _ _ (by omega) ua (by decide) (by decide)
    · exact pl _ _ l32 w32 (by rw [List.length_replicate]; omega) (rep _ _ (by omega) (by omega))
    · exact pl _ _ (by omega) hba (by decide) (by decide)
    · exact pl _ _ (by omega) hba (by decide) (by decide)
    · exact pl _ _ (by omega) hba (by decide) (by decide)
    · exact pl _ _ (by omega) hba (by decide) (by decide)
    · exact txX
    · exact pl _ _ (by omega) hba (by decide) (by decide)
    · exact pl _ _ l32 w32 (by rw [List.length_replicate]; omega) (rep _ _ (by omega) (by omega))
  have z0 := Int.emod_nonneg c (show (19 : Int) ≠ 0 by decide)
  have z1 := Int.emod_lt_of_pos c (show (0 : Int) < 19 by decide)
  obtain ⟨n, hn⟩ : ∃ n : Nat, c % 19 = (n : Int) := ⟨(c % 19).toNat, by omega⟩
  have fin : ∀ Ts : List (List Nat), Ts.length = 19 → (∀ l ∈ Ts, TxOk l) → ∃ l, gIx2 (.lst true (Ts.map D.str)) (.int (c % 19)) = some (.str l) ∧ TxOk l := fun Ts h1 h2 => by
    obtain ⟨Y, hY⟩ : ∃ Y, Ts[n]? = some Y := ⟨_, List.getElem?_eq_getElem (by omega)⟩
    exact ⟨Y, by rw [hn, gIx2_lst, atI_cast, List.getElem?_map, hY]; rfl, h2 Y (List.mem_of_getElem? hY)⟩
  obtain ⟨R, ixR, hR⟩ := fin _ rfl T
  refine ⟨R, ?_, hR⟩
  simp only [List.map_cons, List.map_nil] at ixR
  have g8 : ∀ a b c d e f g h : D, gLst' [a, b, c, d, e, f, g, h] = some (.lst true [a, b, c, d, e, f, g, h]) := fun a b c d e f g h => gLst_ok (by simp)
  have g6 : ∀ a b c d e f : D, gLst' [a, b, c, d, e, f] = some (.lst true [a, b, c, d, e, f]) := fun a b c d e f => gLst_ok (by simp)
  have g4 : ∀ a b c d : D, gLst' [a, b, c, d] = some (.lst true [a, b, c, d]) := fun a b c d => gLst_ok (by simp)
  have ad1 : ∀ a1 a2 a3 a4 a5 a6 a7 a8 b1 b2 b3 b4 b5 b6 : List Nat, gAdd (.lst true [.str a1, .str a2, .str a3, .str a4, .str a5, .str a6, .str a7, .str a8]) (.lst true [.str b1, .str b2, .str b3, .str b4, .str b5, .str b6]) = some (.lst true [.str a1, .str a2, .str a3, .str a4, .str a5, .str a6, .str a7, .str a8, .str b1, .str b2, .str b3, .str b4, .str b5, .str b6]) := fun _ _ _ _ _ _ _ _ _ _ _ _ _ _ => gAdd_lst rfl rfl (by simp)
  have ad2 : ∀ a1 a2 a3 a4 a5 a6 a7 a8 b1 b2 b3 b4 b5 b6 d1 d2 d3 d4 : List Nat, gAdd (.lst true [.str a1, .str a2, .str a3, .str a4, .str a5, .str a6, .str a7, .str a8, .str b1, .str b2, .str b3, .str b4, .str b5, .str b6]) (.lst true [.str d1, .str d2, .str d3, .str d4]) = some (.lst true [.str a1, .str a2, .str a3, .str a4, .str a5, .str a6, .str a7, .str a8, .str b1, .str b2, .str b3, .str b4, .str b5, .str b6, .str d1, .str d2, .str d3, .str d4]) := fun _ _ _ _ _ _ _ _ _ _ _ _ _ _ _ _ _ _ => gAdd_lst rfl rfl (by simp)
  have ap : ∀ (env : Env) (x1 x2 x3 x4 x5 x6 x7 x8 x9 y1 y2 y3 y4 y5 y6 y7 y8 y9 z : D), appR env 4 [x1, x2, x3, x4, x5, x6, x7, x8, x9, y1, y2, y3, y4, y5, y6, y7, y8, y9] z = .nx (env.set 4 (.own (.lst true [x1, x2, x3, x4, x5, x6, x7, x8, x9, y1, y2, y3, y4, y5, y6, y7, y8, y9, z]))) := fun env _ _ _ _ _ _ _ _ _ _ _ _ _ _ _ _ _ _ _ => appR_ok (by simp)
  unfold F__law_odd b__law_odd
  clear T fin hR hls hba ua tk tl hX txX hj hne hn z0 z1 m0 m1 hp hl41 ga ul hbl
  generalize W ++ [32, 32, 55] = R1 at *
  generalize W ++ [32, 55, 32] = R2 at *
  generalize [32] ++ W ++ [32, 55] = R4 at *
  generalize [32] ++ W = R3 at *
  generalize W.take 1 ++ [32, 55] = R5 at *
  generalize W.take 1 = R5' at *
  generalize W ++ [32, 48, 55] = R6 at *
  generalize W ++ [32, 45, 55] = R7 at *
  generalize W ++ [32] ++ List.replicate 61 55 = R11 at *
  generalize W ++ [32] ++ List.replicate 60 57 = R17 at *
  generalize List.replicate 61 55 = P61 at *
  generalize List.replicate 60 57 = P60 at *
  generalize W ++ [32] = R8 at *
  generalize W ++ [32, 55, 32, 55] = R9 at *
  generalize U ++ [32, 55] = R10 at *
  generalize W ++ [32, 43, 55] = R12 at *
  generalize W ++ [32, 55, 97] = R13 at *
  generalize W ++ [97, 98, 99, 100, 101, 102, 103, 104, 32, 55] = R14 at *
  generalize W ++ [95, 55] = R15 at *
  generalize W ++ [32, 48] = R16 at *
  generalize ls.map D.str = LD at *
  generalize (ls.length : Int) = ll at *
  walk_at "exs"
theorem gNe_Wn19 {o p : Bool} {a b : List (List Nat)} (ha : ∀ l ∈ a, ∀ x ∈ l, x < 1114112) (hb : ∀ l ∈ b, ∀ x ∈ l, x < 1114112) : gNe (.lst o (a.map .str)) (.lst p (b.map .str)) = some (.bl (!decide (a = b))) := by
  have sg : ∀ {o : Bool} {a : List (List Nat)}, (∀ l ∈ a, ∀ x ∈ l, x < 1114112) → shO (.lst o (a.map .str)) = true := fun {o a} ha => shO_of 1 (by
    rw [sh, shs_all]
    intro d hd
    obtain ⟨l, hl, rfl⟩ := List.mem_map.mp hd
    simp only [sh, List.all_eq_true, decide_eq_true_eq]
    exact ha l hl)
  rw [gNe_of (sg ha) (sg hb), deq_lst, deqs_map (f := D.str) (fun x y => deq_str x y)]
theorem F_lines (ns : List Int) : ∃ ls : List (List Nat), F__law_lines [.ro (ns.map D.int)] = .ok (.lst false (ls.map .str)) ∧ (∀ l ∈ ls, TxOk l) ∧ ls.length ≤ 41 ∧ ls ≠ [[]] := by
  have e0 := F_cell0 ns
  have sl : gSl (.ro (ns.map D.int)) (some 1) (some 41) = some (.lst true ((((ns.drop 1).take 40)).map D.int)) := by
    show (if clos (ns.map D.int) = true then some (D.lst true (cutL (ns.map D.int) (some ((1 : Nat) : Int)) (some ((41 : Nat) : Int)))) else none) = _
    rw [if_pos (clos_ints ns), cutL_mid, ← List.map_drop, ← List.map_take]
  have io := itemsOf_lst (o := true) (clos_ints ((ns.drop 1).take 40))
  have lt : ((ns.drop 1).take 40).length ≤ 40 := by rw [List.length_take]; omega
  generalize (ns.drop 1).take 40 = cs at *
  obtain ⟨f, hf⟩ : ∃ f : Int → List Nat, ∀ c, F__law_line [.ro (ns.map D.int), .int c] = .ok (.str (f c)) ∧ TxOk (f c) ∧ f c ≠ [] := ⟨fun c => Classical.choose (F_linek ns c), fun c => Classical.choose_spec (F_linek ns c)⟩
  have lc : lcF (fgName 2) ftYes (fCall F__law_line (fCons (fVar 0) (fCons (fVar 2) (fNil)))) [.bor (.ro (ns.map D.int)), .no, .no, .no] (cs.map D.int) [] = .ok (.lst true ((cs.map f).map .str)) := by
    rw [List.map_map]
    refine lcF_map (g := D.int) (f := fun c => D.str (f c)) (fun c hc => ?_) (by omega)
    have h := (hf c).1
    refine ⟨_, rfl, rfl, ?_⟩
    clear hc hf sl io lt e0
    walk_at "exs"
  have tA : ∀ l ∈ cs.map f, TxOk l := fun l hl => by
    obtain ⟨c, _, rfl⟩ := List.mem_map.mp hl
    exact (hf c).2.1
  have nA : ∀ l ∈ cs.map f, l ≠ [] := fun l hl => by
    obtain ⟨c, _, rfl⟩ := List.mem_map.mp hl
    exact (hf c).2.2
  have lA : (cs.map f).length ≤ 40 := by rw [List.length_map]; exact lt
  clear hf
  generalize hA : cs.map f = A at *
  have cA := clos_strs A
  have fzA : frzs (A.map D.str) = A.map D.str := frzs_clos cA
  have txs : ∀ l ∈ A, ∀ a ∈ l, a < 1114112 := fun l hl a ha => by have := (tA l hl).2 a ha; omega
  have ne : gNe (.lst false (A.map D.str)) (.lst true []) = some (.bl (!decide (A = []))) := gNe_Wn19 (o := false) (p := true) (b := []) txs (by simp)
  have m0 : gLst' [] = some (.lst true []) := gLst_ok (by simp)
  have gl : gLen [.lst false (A.map D.str)] = some (.int (A.length : Int)) := by rw [gLen_lst, List.length_map]
  by_cases hne : A = []
  · rw [decide_eq_true hne] at ne
    refine ⟨A, ?_, tA, by omega, fun z => by rw [hne] at z; cases z⟩
    unfold F__law_lines b__law_lines
    clear hne tA nA lA txs hA lt
    generalize A.map D.str = AD at *
    generalize (A.length : Int) = al at *
    generalize cs.map D.int = CD at *
    walk_at "exs"
  rw [decide_eq_false hne] at ne
  by_cases odd : cellAt ns 0 / 2401 % 2 = 1
  · obtain ⟨o, fo, ho⟩ := F_oddk ns (cellAt ns 0 / 2401 / 82) hne tA (by omega)
    have gm := gMod_int (i := cellAt ns 0 / 2401 / 2) (j := (A.length : Int) + 1) (by omega)
    have z0 := Int.emod_nonneg (cellAt ns 0 / 2401 / 2) (show (A.length : Int) + 1 ≠ 0 by omega)
    have z1 := Int.emod_lt_of_pos (cellAt ns 0 / 2401 / 2) (show (0 : Int) < (A.length : Int) + 1 by omega)
    obtain ⟨k, hk⟩ : ∃ k : Nat, cellAt ns 0 / 2401 / 2 % ((A.length : Int) + 1) = (k : Int) := ⟨(cellAt ns 0 / 2401 / 2 % ((A.length : Int) + 1)).toNat, by omega⟩
    rw [hk] at gm
    have s1 := gSl_lstto (o := false) (k := k) cA
    have s2 := gSl_lstfrom (o := false) (k := k) cA
    rw [← List.map_take] at s1
    rw [← List.map_drop] at s2
    have m1 : gLst' [.str o] = some (.lst true [.str o]) := gLst_ok (by simp)
    have a1 : gAdd (.lst true ((A.take k).map D.str)) (.lst true [.str o]) = some (.lst true ((A.take k ++ [o]).map D.str)) := by
      rw [gAdd_lst (clos_strs _) rfl (by rw [List.length_map, List.length_take]; show _ + 1 ≤ _; omega), List.map_append]; rfl
    have a2 : gAdd (.lst true ((A.take k ++ [o]).map D.str)) (.lst true ((A.drop k).map D.str)) = some (.lst true ((A.take k ++ [o] ++ A.drop k).map D.str)) := by
      rw [gAdd_lst (clos_strs _) (clos_strs _) (by rw [List.length_map, List.length_map, List.length_append, List.length_take, List.length_drop, List.length_singleton]; omega), List.map_append, List.map_append, List.map_append]
    have fzR : frzs ((A.take k ++ [o] ++ A.drop k).map D.str) = (A.take k ++ [o] ++ A.drop k).map D.str := frzs_clos (clos_strs _)
    have cRR : clos ((A.take k ++ [o] ++ A.drop k).map D.str) = true := clos_strs _
    have lR : (A.take k ++ [o] ++ A.drop k).length = A.length + 1 := by
      rw [List.length_append, List.length_append, List.length_take, List.length_drop, List.length_singleton]
      omega
    have hp := List.length_pos_iff.mpr hne
    refine ⟨A.take k ++ [o] ++ A.drop k, ?_, fun l hl => ?_, by omega, fun z => by
      have h := congrArg List.length z
      rw [lR, List.length_singleton] at h
      omega⟩
    · unfold F__law_lines b__law_lines
      clear hne tA nA lA txs hA lt ho z0 z1 hk lR hp
      generalize (A.take k ++ [o] ++ A.drop k).map D.str = RD at *
      generalize (A.take k ++ [o]).map D.str = RD2 at *
      generalize (A.take k).map D.str = RD3 at *
      generalize (A.drop k).map D.str = RD4 at *
      generalize A.map D.str = AD at *
      generalize (A.length : Int) = al at *
      generalize cs.map D.int = CD at *
      walk_at "exs"
    · rcases List.mem_append.mp hl with y | y
      · rcases List.mem_append.mp y with y | y
        · exact tA l (List.mem_of_mem_take y)
        · rw [List.mem_singleton.mp y]; exact ho
      · exact tA l (List.mem_of_mem_drop y)
  · refine ⟨A, ?_, tA, by omega, fun z => nA [] (by rw [z]; simp) rfl⟩
    unfold F__law_lines b__law_lines
    clear hne tA nA lA txs hA lt
    generalize A.map D.str = AD at *
    generalize (A.length : Int) = al at *
    generalize cs.map D.int = CD at *
    walk_at "exs"
noncomputable def b_read_book : FS :=
    fSeq (fIfS (ftNot (ftB (fIsi "str" (fVar 0)))) (fSeq (fRaise1 "NoLine" "line" (fC (.int 0)))
    (fNext)) (fNext))
    (fSeq (fSet 1 (fMake "Book" [true] F_Book___init__ [] (faNil)))
    (fSeq (fIfS (ftB (fOp gEq (fVar 0) (fC (.str [])))) (fSeq (fRetV 1)
    (fNext)) (fNext))
    (fSeq (fPre [2, 3, 4, 5, 6] (fFor (fiEnum (fM1 gSplit (fVar 0) (fC (.str [10])))) (fgTup 2 (fgCons (fgName 2) (fgCons (fgName 3) (fgNil)))) (fWipe [2, 3, 4, 5, 6] (fSeq (fAsg (fgTup 3 (fgCons (fgName 4) (fgCons (fgName 5) (fgCons (fgName 6) (fgNil))))) (fM1 gPartition (fVar 3) (fC (.str [32]))))
    (fSeq (fIfS (ftOr (ftB (fOp gEq (fVar 5) (fC (.str [])))) (ftOr (ftNot (ftB (fCall F_is_word (fCons (fVar 4) (fNil))))) (ftOr (ftNot (ftB (fCall F_is_worth (fCons (fVar 6) (fNil))))) (ftB (fMeth "Book" "has" F_Book_has [] (fVar 1) (fCons (fVar 4) (fNil))))))) (fSeq (fRaise1 "NoLine" "line" (fVar 2))
    (fNext)) (fNext))
    (fSeq (fDropM (fMethM "Book" "put" [true, false, false] F_Book_put [] (fplVar 1) (faCl (fVar 4) (faCl (fApp gInt (fCons (fVar 6) (fNil))) (faNil)))))
    (fNext)))))))
    (fSeq (fRetV 1)
    (fNext)))))
noncomputable def F_read_book : List D → O D := fDef 1 7 b_read_book
noncomputable def b__law_due : FS :=
    fSeq (fSet 1 (fC (.dct true 0 [] [])))
    (fSeq (fPre [2, 3, 4, 5] (fFor (fiRng1 (fApp gLen (fCons (fVar 0) (fNil)))) (fgName 2) (fWipe [2, 3, 4, 5] (fSeq (fAsg (fgTup 3 (fgCons (fgName 3) (fgCons (fgName 4) (fgCons (fgName 5) (fgNil))))) (fM1 gPartition (fOp gIx2 (fVar 0) (fVar 2)) (fC (.str [32]))))
    (fSeq (fIfS (ftOr (ftNot (ftB (fCall F__law_is_line (fCons (fOp gIx2 (fVar 0) (fVar 2)) (fNil))))) (ftB (fOp gIn2 (fVar 3) (fVar 1)))) (fSeq (fRetT (fmCons (fClo (fVar 2)) (fmMv 1 (fmNil))))
    (fNext)) (fNext))
    (fSeq (fStore 1 (fVar 3) (fApp gInt (fCons (fVar 5) (fNil))))
    (fNext)))))))
    (fSeq (fRetT (fmCons (fNeg (fC (.int 1))) (fmMv 1 (fmNil))))
    (fNext)))
noncomputable def F__law_due : List D → O D := fDef 1 6 b__law_due
/-! ### what the lines tell -/
theorem loop_toB {fg : FG} {fb : FS} {ds : List D} {o : O D} (K : Nat → Env) {j : Nat} (hj : j < ds.length) (h1 : ∀ i d, i < j → ds[i]? = some d → ∃ e, fg d (K i) = some e ∧ fb e = .nx (K (i + 1))) (h2 : ∀ d, ds[j]? = some d → ∃ e, fg d (K j) = some e ∧ R.haltsB o (fb e)) : R.haltsB o (loopF fg fb ds (K 0)) := by
  rcases loop_orB (fg := fg) (fb := fb) (fun i env => i ≤ j ∧ env = K i) o ds 0 (K 0) ⟨Nat.zero_le _, rfl⟩ (fun i d env hd hP => by
    obtain ⟨hi, rfl⟩ := hP
    rw [Nat.zero_add] at hi ⊢
    by_cases q : i < j
    · obtain ⟨e, a, b⟩ := h1 i d q hd
      exact ⟨e, a, .inl ⟨_, .inl b, by omega, rfl⟩⟩
    · obtain rfl : i = j := by omega
      obtain ⟨e, a, b⟩ := h2 d hd
      exact ⟨e, a, .inr b⟩) with ⟨r, _, h, _⟩ | h
  · exfalso; omega
  · exact h
theorem loop_allB {fg : FG} {fb : FS} {ds : List D} (K : Nat → Env) (h1 : ∀ i d, ds[i]? = some d → ∃ e, fg d (K i) = some e ∧ fb e = .nx (K (i + 1))) : loopF fg fb ds (K 0) = .nx (K ds.length) := by
  obtain ⟨r, a, b⟩ := loop_invB (fg := fg) (fb := fb) (fun i env => env = K i) ds 0 (K 0) rfl (fun i d env hd hP => by
    subst hP
    rw [Nat.zero_add]
    obtain ⟨e, a, b⟩ := h1 i d hd
    exact ⟨e, _, a, .inl b, rfl⟩)
  rw [a, b, Nat.zero_add]
def valZ (l : List Nat) : Int := ((NumText.digitsVal (prt l).2.2 : Nat) : Int)
def lineOk (l : List Nat) : Bool := isBW (prt l).1 && isWt (prt l).2.2
theorem gInt_wt {p : List Nat} (h : isWt p = true) : gInt [.str p] = some (.int ((NumText.digitsVal p : Nat) : Int)) := by
  unfold isWt at h
  rw [Bool.and_eq_true, Bool.and_eq_true, decide_eq_true_eq, List.all_eq_true] at h
  obtain ⟨⟨h1, h2⟩, _, h3⟩ := h
  have e : intText? (S p) = some ((NumText.digitsVal p : Nat) : Int) := SX.int_S (by
    rw [List.all_eq_true]
    intro a ha
    have h4 := of_decide_eq_true (h3 a ha)
    have : ∀ a ∈ nine, (decide (48 ≤ a) && decide (a ≤ 57)) = true := by decide
    exact this a h4) (fun z => by rw [z] at h1; simp at h1) (by omega)
  show (if p.length ≤ 640 then (intText? (S p)).map D.int else none) = _
  rw [if_pos (by omega), e]; rfl
def wAt (ls : List (List Nat)) (i : Nat) : List (List Nat × Int) := (ls.take i).map fun l => ((prt l).1, valZ l)
theorem wAt_succ {ls : List (List Nat)} {i : Nat} {l : List Nat} (h : ls[i]? = some l) : wAt ls (i + 1) = wAt ls i ++ [((prt l).1, valZ l)] := by
  unfold wAt
  rw [List.take_succ, h, List.map_append]; rfl
theorem wAt_len (ls : List (List Nat)) (i : Nat) : (wAt ls i).length ≤ i := by
  unfold wAt
  rw [List.length_map, List.length_take]; omega
def goodAt (ls : List (List Nat)) (i : Nat) : Bool := lineOk (ls.getD i []) && !(getA (wAt ls i) (prt (ls.getD i [])).1).isSome
theorem goodAt_of {ls : List (List Nat)} {i : Nat} {l : List Nat} (h : ls[i]? = some l) : goodAt ls i = (lineOk l && !(getA (wAt ls i) (prt l).1).isSome) := by
  unfold goodAt
  rw [List.getD_eq_getElem?_getD, h]; rfl
/-- the number of the first line that is none, or -1 -/
inductive Told (ls : List (List Nat)) : Int → Nat → Prop
  | all : (∀ i, i < ls.length → goodAt ls i = true) → Told ls (-1) ls.length
  | at_ (j : Nat) : j < ls.length → goodAt ls j = false → (∀ i, i < j → goodAt ls i = true) → Told ls (j : Int) j
theorem told_ex (ls : List (List Nat)) : ∃ z j, Told ls z j := by
  rcases least (goodAt ls) ls.length with h | ⟨j, h1, h2, h3⟩
  · exact ⟨_, _, .all h⟩
  · exact ⟨_, _, .at_ j h1 h2 h3⟩
/-- one turn of the law -/
theorem dueTurn {ls : List (List Nat)} (hls : ∀ l ∈ ls, TxOk l) (hl41 : ls.length ≤ 41) {i : Nat} {l : List Nat} (hl : ls[i]? = some l) :
    let B := (fWipe [2, 3, 4, 5] (fSeq (fAsg (fgTup 3 (fgCons (fgName 3) (fgCons (fgName 4) (fgCons (fgName 5) (fgNil))))) (fM1 gPartition (fOp gIx2 (fVar 0) (fVar 2)) (fC (.str [32]))))
    (fSeq (fIfS (ftOr (ftNot (ftB (fCall F__law_is_line (fCons (fOp gIx2 (fVar 0) (fVar 2)) (fNil))))) (ftB (fOp gIn2 (fVar 3) (fVar 1)))) (fSeq (fRetT (fmCons (fClo (fVar 2)) (fmMv 1 (fmNil))))
    (fNext)) (fNext))
    (fSeq (fStore 1 (fVar 3) (fApp gInt (fCons (fVar 5) (fNil))))
    (fNext)))))
    (goodAt ls i = true → B [.bor (.lst false (ls.map .str)), .own (wD true (wAt ls i)), .own (.int (i : Int)), .no, .no, .no] = .nx [.bor (.lst false (ls.map .str)), .own (wD true (wAt ls (i + 1))), .no, .no, .no, .no]) ∧
    (goodAt ls i = false → R.haltsB (.ok (.tup [.int (i : Int), wD true (wAt ls i)])) (B [.bor (.lst false (ls.map .str)), .own (wD true (wAt ls i)), .own (.int (i : Int)), .no, .no, .no])) := by
  intro B
  have tx := hls l (List.mem_of_getElem? hl)
  have hsg : ∀ a ∈ l, a < 1114112 := fun a ha => by have := (tx.2 a ha).1; omega
  have fl := F_lisline l (by have := tx.1; omega) hsg
  have gp := gPart l (by have := tx.1; omega)
  have ix : gIx2 (.lst false (ls.map D.str)) (.int (i : Int)) = some (.str l) := by rw [gIx2_lst, atI_cast, List.getElem?_map, hl]; rfl
  have gi := wD_in (prt l).1 true (wAt ls i)
  have wl := wAt_len ls i
  have hi := (List.getElem?_eq_some_iff.mp hl).1
  rw [goodAt_of hl]
  refine ⟨fun hg => ?_, fun hg => ?_⟩
  · rw [Bool.and_eq_true] at hg
    obtain ⟨h1, h2⟩ := hg
    have hn : (getA (wAt ls i) (prt l).1).isSome = false := by simpa using h2
    have hw : isWt (prt l).2.2 = true := by
      unfold lineOk at h1
      rw [Bool.and_eq_true] at h1
      exact h1.2
    have gt := gInt_wt hw
    have hk : (prt l).1 ∉ (wAt ls i).map (·.1) := fun q => by rw [getA_some.mpr q] at hn; cases hn
    have st : gStore (wD true (wAt ls i)) (.str (prt l).1) (.int (valZ l)) = some (wD true (wAt ls (i + 1))) := by
      show gStoreC (wD true (wAt ls i)) (.str (prt l).1) (.int (valZ l)) = _
      rw [wD_store _ _ _ (by omega), keys_set hk, wAt_succ hl]
    replace gt : gInt [.str (prt l).2.2] = some (.int (valZ l)) := gt
    rw [show (isBW (prt l).1 && isWt (prt l).2.2) = true from h1] at fl
    rw [hn] at gi
    dsimp only [B]
    clear B
    clear tx hsg hn hw hk wl hi h1 h2 hls hl41
    generalize valZ l = v at *
    generalize (prt l).2.2 = p3 at *
    generalize (prt l).2.1 = p2 at *
    generalize (prt l).1 = p1 at *
    generalize wD true (wAt ls (i + 1)) = W2 at *
    generalize wD true (wAt ls i) = W1 at *
    generalize ls.map D.str = LD at *
    generalize (i : Int) = iz at *
    walk_at "exs"
  · have cW : clo (.int (i : Int)) = true := rfl
    dsimp only [B]
    clear B
    cases h1 : lineOk l
    · rw [show (isBW (prt l).1 && isWt (prt l).2.2) = false from h1] at fl
      clear tx hsg wl hi h1 hg hls hl41 gi
      generalize (prt l).2.2 = p3 at *
      generalize (prt l).2.1 = p2 at *
      generalize (prt l).1 = p1 at *
      generalize wD true (wAt ls i) = W1 at *
      generalize ls.map D.str = LD at *
      generalize (i : Int) = iz at *
      walk_at "exs"
      rfl
    · rw [h1, Bool.true_and] at hg
      have hn : (getA (wAt ls i) (prt l).1).isSome = true := by simpa using hg
      rw [show (isBW (prt l).1 && isWt (prt l).2.2) = true from h1] at fl
      rw [hn] at gi
      clear tx hsg wl hi h1 hg hls hl41 hn
      generalize (prt l).2.2 = p3 at *
      generalize (prt l).2.1 = p2 at *
      generalize (prt l).1 = p1 at *
      generalize wD true (wAt ls i) = W1 at *
      generalize ls.map D.str = LD at *
      generalize (i : Int) = iz at *
      walk_at "exs"
      rfl
theorem F_ldue {ls : List (List Nat)} (hls : ∀ l ∈ ls, TxOk l) (hl41 : ls.length ≤ 41) {z : Int} {j : Nat} (ht : Told ls z j) : F__law_due [.lst false (ls.map .str)] = .ok (.tup [.int z, wD true (wAt ls j)]) := by
  have gl : gLen [.lst false (ls.map D.str)] = some (.int (ls.length : Int)) := by rw [gLen_lst, List.length_map]
  have rg : rngO (.int (ls.length : Int)) = .ok (rngD ls.length) := rngO_nat (by omega)
  have w0 : wD true (wAt ls 0) = .dct true 0 [] [] := rfl
  unfold F__law_due b__law_due
  walk_at "exs"
  cases ht with
  | all h =>
    have lo := loop_allB (fg := fgName 2) (fb := (fWipe [2, 3, 4, 5] (fSeq (fAsg (fgTup 3 (fgCons (fgName 3) (fgCons (fgName 4) (fgCons (fgName 5) (fgNil))))) (fM1 gPartition (fOp gIx2 (fVar 0) (fVar 2)) (fC (.str [32]))))
    (fSeq (fIfS (ftOr (ftNot (ftB (fCall F__law_is_line (fCons (fOp gIx2 (fVar 0) (fVar 2)) (fNil))))) (ftB (fOp gIn2 (fVar 3) (fVar 1)))) (fSeq (fRetT (fmCons (fClo (fVar 2)) (fmMv 1 (fmNil))))
    (fNext)) (fNext))
    (fSeq (fStore 1 (fVar 3) (fApp gInt (fCons (fVar 5) (fNil))))
    (fNext)))))) (ds := rngD ls.length) (fun i => [.bor (.lst false (ls.map .str)), .own (wD true (wAt ls i)), .no, .no, .no, .no]) (fun i d hd => by
      obtain ⟨hi, rfl⟩ := rngD_get hd
      exact ⟨_, rfl, (dueTurn hls hl41 (List.getElem?_eq_getElem hi)).1 (h i hi)⟩)
    rw [w0, rngD_len] at lo
    rw [lo]
    clear lo hls h
    generalize wD true (wAt ls ls.length) = W1 at *
    walk_at "exs"
  | at_ _ h1 h2 h3 =>
    have lo := loop_toB (fg := fgName 2) (fb := (fWipe [2, 3, 4, 5] (fSeq (fAsg (fgTup 3 (fgCons (fgName 3) (fgCons (fgName 4) (fgCons (fgName 5) (fgNil))))) (fM1 gPartition (fOp gIx2 (fVar 0) (fVar 2)) (fC (.str [32]))))
    (fSeq (fIfS (ftOr (ftNot (ftB (fCall F__law_is_line (fCons (fOp gIx2 (fVar 0) (fVar 2)) (fNil))))) (ftB (fOp gIn2 (fVar 3) (fVar 1)))) (fSeq (fRetT (fmCons (fClo (fVar 2)) (fmMv 1 (fmNil))))
    (fNext)) (fNext))
    (fSeq (fStore 1 (fVar 3) (fApp gInt (fCons (fVar 5) (fNil))))
    (fNext)))))) (ds := rngD ls.length) (o := .ok (.tup [.int (j : Int), wD true (wAt ls j)])) (fun i => [.bor (.lst false (ls.map .str)), .own (wD true (wAt ls i)), .no, .no, .no, .no]) (j := j) (by rw [rngD_len]; exact h1) (fun i d hij hd => by
      obtain ⟨hi, rfl⟩ := rngD_get hd
      exact ⟨_, rfl, (dueTurn hls hl41 (List.getElem?_eq_getElem hi)).1 (h3 i hij)⟩) (fun d hd => by
      obtain ⟨hi, rfl⟩ := rngD_get hd
      exact ⟨_, rfl, (dueTurn hls hl41 (List.getElem?_eq_getElem hi)).2 h2⟩)
    rw [w0] at lo
    exact halts_seq lo
/-! the program's reading -/
def mAt (ls : List (List Nat)) : Nat → List (NK × Int)
  | 0 => []
  | i + 1 => turnB (mAt ls i) (prt (ls.getD i [])).1 (2 ^ i) (prt (ls.getD i [])).1.length
def bkA (o : Bool) (ls : List (List Nat)) (i : Nat) : D := bk o (wAt ls i) ((wAt ls i).map (·.1)) (mAt ls i)
theorem wAt_eq {ls : List (List Nat)} {i : Nat} (h : i ≤ ls.length) : (wAt ls i).length = i := by
  unfold wAt
  rw [List.length_map, List.length_take]; omega
theorem bkA_ok {ls : List (List Nat)} : ∀ i, i ≤ ls.length → (∀ k, k < i → goodAt ls k = true) → BkOk i (wAt ls i) ((wAt ls i).map (·.1)) (mAt ls i)
  | 0, _, _ => ⟨by simp [wAt], by simp [wAt], by simp [mAt], fun l h => by simp [wAt] at h, fun l h => by simp [wAt] at h⟩
  | i + 1, hi, hg => by
    have ih := bkA_ok i (by omega) fun k hk => hg k (by omega)
    have hl : ls[i]? = some ls[i] := List.getElem?_eq_getElem (by omega)
    have hd : ls.getD i [] = ls[i] := by rw [List.getD_eq_getElem?_getD, hl]; rfl
    have h := hg i (by omega)
    rw [goodAt_of hl, Bool.and_eq_true] at h
    have hb : isBW (prt ls[i]).1 = true := by
      have := h.1
      unfold lineOk at this
      rw [Bool.and_eq_true] at this
      exact this.1
    have r := ih.add (b := 2 ^ i) (v := valZ ls[i]) hb
    rw [wAt_succ hl, List.map_append]
    show BkOk _ _ _ (turnB (mAt ls i) (prt (ls.getD i [])).1 (2 ^ i) (prt (ls.getD i [])).1.length)
    rw [hd]
    exact r
theorem readTurn {ls : List (List Nat)} (hls : ∀ l ∈ ls, TxOk l) (hl41 : ls.length ≤ 41) {i : Nat} {l : List Nat} (hl : ls[i]? = some l) (hpre : ∀ k, k < i → goodAt ls k = true) (text : List Nat) :
    let B := (fWipe [2, 3, 4, 5, 6] (fSeq (fAsg (fgTup 3 (fgCons (fgName 4) (fgCons (fgName 5) (fgCons (fgName 6) (fgNil))))) (fM1 gPartition (fVar 3) (fC (.str [32]))))
    (fSeq (fIfS (ftOr (ftB (fOp gEq (fVar 5) (fC (.str [])))) (ftOr (ftNot (ftB (fCall F_is_word (fCons (fVar 4) (fNil))))) (ftOr (ftNot (ftB (fCall F_is_worth (fCons (fVar 6) (fNil))))) (ftB (fMeth "Book" "has" F_Book_has [] (fVar 1) (fCons (fVar 4) (fNil))))))) (fSeq (fRaise1 "NoLine" "line" (fVar 2))
    (fNext)) (fNext))
    (fSeq (fDropM (fMethM "Book" "put" [true, false, false] F_Book_put [] (fplVar 1) (faCl (fVar 4) (faCl (fApp gInt (fCons (fVar 6) (fNil))) (faNil)))))
    (fNext)))))
    (goodAt ls i = true → B [.bor (.str text), .own (bkA true ls i), .own (.int (i : Int)), .own (.str l), .no, .no, .no] = .nx [.bor (.str text), .own (bkA true ls (i + 1)), .no, .no, .no, .no, .no]) ∧
    (goodAt ls i = false → R.haltsB (.exc ⟨"NoLine", ["line"], [.int (i : Int)]⟩) (B [.bor (.str text), .own (bkA true ls i), .own (.int (i : Int)), .own (.str l), .no, .no, .no])) := by
  intro B
  have tx := hls l (List.mem_of_getElem? hl)
  have hsg : ∀ a ∈ l, a < 1114112 := fun a ha => by have := (tx.2 a ha).1; omega
  obtain ⟨p1, p2, p3, p4, p5⟩ := prt_ok l
  have hi := (List.getElem?_eq_some_iff.mp hl).1
  have wl := wAt_eq (ls := ls) (i := i) (by omega)
  have ok := bkA_ok (ls := ls) i (by omega) hpre
  have hd : ls.getD i [] = l := by rw [List.getD_eq_getElem?_getD, hl]; rfl
  have gp := gPart l (by have := tx.1; omega)
  have fw := F_isBW (prt l).1 (by have := tx.1; omega)
  have ft := F_isWt (prt l).2.2 (by have := tx.1; omega) (fun a ha => hsg a (p4 a ha))
  have fh : F_Book_has [bkA true ls i, .str (prt l).1] = .ok (.bl (getA (wAt ls i) (prt l).1).isSome) := F_has true (wAt ls i) _ _ (prt l).1
  have oh : isObj "Book" "has" (bkA true ls i) = true := obj_has
  have op : isObjO "Book" "put" (bkA true ls i) = true := obj_put
  have gq : gEq (.str (prt l).2.1) (.str []) = some (.bl (decide ((prt l).2.1 = []))) := by
    rw [gEq_of (shO_of 0 (by
      rcases p5 with q | ⟨q, _⟩ <;> rw [q] <;> simp [sh])) (shO_of 0 (by simp [sh]))]
    congr 2
    rw [deq_str]
  rw [goodAt_of hl]
  refine ⟨fun hg => ?_, fun hg => ?_⟩
  · rw [Bool.and_eq_true] at hg
    obtain ⟨h1, h2⟩ := hg
    have hn : (getA (wAt ls i) (prt l).1).isSome = false := by simpa using h2
    have hb : isBW (prt l).1 = true ∧ isWt (prt l).2.2 = true := by
      unfold lineOk at h1
      rw [Bool.and_eq_true] at h1
      exact h1
    have gt := gInt_wt hb.2
    replace gt : gInt [.str (prt l).2.2] = some (.int (valZ l)) := gt
    have hm : decide ((prt l).2.1 = []) = false := decide_eq_false fun q => by
      rcases p5 with z | ⟨_, z⟩
      · rw [z] at q; cases q
      · have := hb.2
        rw [z] at this
        cases this
    have ep := F_put (wAt ls i) ((wAt ls i).map (·.1)) (mAt ls i) (prt l).1 (valZ l) (by have := tx.1; omega) (by have := ok.lm; omega) (by rw [List.length_map]; omega) (by omega)
    rw [if_pos hb.1, hn, if_neg (by simp)] at ep
    have eb : bk true (wAt ls i ++ [((prt l).1, valZ l)]) ((wAt ls i).map (·.1) ++ [(prt l).1]) (turnB (mAt ls i) (prt l).1 (2 ^ ((wAt ls i).map (·.1)).length) (prt l).1.length) = bkA true ls (i + 1) := by
      unfold bkA
      rw [wAt_succ hl, List.map_append, List.length_map, wl]
      show _ = bk true _ _ (turnB (mAt ls i) (prt (ls.getD i [])).1 (2 ^ i) (prt (ls.getD i [])).1.length)
      rw [hd]; rfl
    rw [eb] at ep
    replace ep : F_Book_put [bkA true ls i, .str (prt l).1, .int (valZ l)] = .ok .non [bkA true ls (i + 1)] := ep
    rw [hm] at gq
    rw [hb.1] at fw
    rw [hb.2] at ft
    rw [hn] at fh
    dsimp only [B]
    clear B tx hsg hn hb wl hi h1 h2 hls hl41 p1 p2 p3 p4 p5 ok hd eb hm hpre
    generalize valZ l = v at *
    generalize (prt l).2.2 = p3 at *
    generalize (prt l).2.1 = p2 at *
    generalize (prt l).1 = p1 at *
    generalize bkA true ls (i + 1) = B2 at *
    generalize bkA true ls i = B1 at *
    generalize (i : Int) = iz at *
    walk_at "exs"
    rw [callR_1 (i := 1) (p := []) (d0 := B1) (by rfl) (by rfl) (by rfl) (by rfl) (by rfl)]
    walk_at "exs"
  · dsimp only [B]
    clear B
    by_cases hm : (prt l).2.1 = []
    · rw [decide_eq_true hm] at gq
      clear tx hsg wl hi hg hls hl41 p1 p2 p3 p4 p5 ok hd hm hpre fw ft fh
      generalize (prt l).2.2 = p3 at *
      generalize (prt l).2.1 = p2 at *
      generalize (prt l).1 = p1 at *
      generalize bkA true ls i = B1 at *
      generalize (i : Int) = iz at *
      walk_at "exs"
      rfl
    · rw [decide_eq_false hm] at gq
      have hg : (isBW (prt l).1 && isWt (prt l).2.2 && !(getA (wAt ls i) (prt l).1).isSome) = false := hg
      clear tx hsg wl hi hls hl41 p1 p2 p3 p4 p5 ok hd hm hpre
      cases b1 : isBW (prt l).1
      · rw [b1] at fw
        clear ft fh hg b1
        generalize (prt l).2.2 = p3 at *
        generalize (prt l).2.1 = p2 at *
        generalize (prt l).1 = p1 at *
        generalize bkA true ls i = B1 at *
        generalize (i : Int) = iz at *
        walk_at "exs"
        rfl
      · rw [b1] at fw
        cases b2 : isWt (prt l).2.2
        · rw [b2] at ft
          clear fh hg b1 b2
          generalize (prt l).2.2 = p3 at *
          generalize (prt l).2.1 = p2 at *
          generalize (prt l).1 = p1 at *
          generalize bkA true ls i = B1 at *
          generalize (i : Int) = iz at *
          walk_at "exs"
          rfl
        · rw [b2] at ft
          rw [b1, b2, Bool.true_and, Bool.true_and] at hg
          have hn : (getA (wAt ls i) (prt l).1).isSome = true := by simpa using hg
          rw [hn] at fh
          clear hg b1 b2 hn
          generalize (prt l).2.2 = p3 at *
          generalize (prt l).2.1 = p2 at *
          generalize (prt l).1 = p1 at *
          generalize bkA true ls i = B1 at *
          generalize (i : Int) = iz at *
          walk_at "exs"
          rfl
theorem joinL_ne {ls : List (List Nat)} (h1 : ls ≠ []) (h2 : ls ≠ [[]]) : joinL [10] ls ≠ [] := by
  match ls, h1, h2 with
  | [x], _, h2 => exact fun z => h2 (by
      have : joinL [10] [x] = x := rfl
      rw [this] at z
      rw [z])
  | x :: y :: r, _, _ =>
    unfold joinL
    intro z
    have := congrArg List.length z
    rw [List.length_append, List.length_append, List.length_singleton] at this
    simp at this
theorem joinL_len19 : ∀ {ls : List (List Nat)} {n : Nat}, (∀ l ∈ ls, l.length ≤ n) → (joinL [10] ls).length ≤ ls.length * (n + 1)
  | [], _, _ => by simp [joinL]
  | [x], n, h => by
    show x.length ≤ 1 * (n + 1)
    have := h x (by simp)
    omega
  | x :: y :: r, n, h => by
    have ih := joinL_len19 (ls := y :: r) (n := n) fun l hl => h l (by simp only [List.mem_cons] at hl ⊢; exact .inr hl)
    have hx := h x (by simp)
    unfold joinL
    rw [List.length_append, List.length_append, List.length_singleton, List.length_cons]
    have : ((y :: r).length + 1) * (n + 1) = (y :: r).length * (n + 1) + (n + 1) := by rw [Nat.add_mul, Nat.one_mul]
    omega
theorem joinL_sg {ls : List (List Nat)} (h : ∀ l ∈ ls, TxOk l) : ∀ a ∈ joinL [10] ls, a < 1114112 := fun a ha => by
  rcases joinL_mem ha with q | ⟨l, hl, q⟩
  · rw [List.mem_singleton.mp q]; omega
  · have := (h l hl).2 a q; omega
theorem F_read0 : F_read_book [.str []] = .ok (bk true [] [] []) := by
  have fi : F_Book___init__ [.ins true "Book" [] []] = .ok .non [bk true [] [] []] := F_init
  have gq : gEq (.str []) (.str []) = some (.bl true) := by
    rw [gEq_of (shO_of 0 (by simp [sh])) (shO_of 0 (by simp [sh]))]; simp
  unfold F_read_book b_read_book
  generalize bk true [] [] [] = B at *
  walk_at "exs"
theorem F_readX {d : D} (h : gIsi "str" d = some (.bl false)) : F_read_book [d] = .exc ⟨"NoLine", ["line"], [.int 0]⟩ := by
  unfold F_read_book b_read_book
  walk_at "exs"
theorem F_readT {ls : List (List Nat)} (hls : ∀ l ∈ ls, TxOk l) (hl41 : ls.length ≤ 41) (n1 : ls ≠ []) (n2 : ls ≠ [[]]) {z : Int} {j : Nat} (ht : Told ls z j) :
    (z = -1 ∧ F_read_book [.str (joinL [10] ls)] = .ok (bkA true ls j)) ∨ (z = (j : Int) ∧ F_read_book [.str (joinL [10] ls)] = .exc ⟨"NoLine", ["line"], [.int (j : Int)]⟩) := by
  have fi : F_Book___init__ [.ins true "Book" [] []] = .ok .non [bk true [] [] []] := F_init
  have jl := joinL_len19 (ls := ls) (n := 100) fun l hl => (hls l hl).1
  have jl2 : (joinL [10] ls).length ≤ 5000 := by
    have : ls.length * (100 + 1) ≤ 41 * 101 := Nat.mul_le_mul hl41 (Nat.le_refl _)
    omega
  have gs := gSplit_join n1 (fun l hl q => ((hls l hl).2 10 q).2 rfl) (by omega)
  have gq : gEq (.str (joinL [10] ls)) (.str []) = some (.bl false) := by
    rw [gEq_of (shO_of 0 (by simpa [sh] using joinL_sg hls)) (shO_of 0 (by simp [sh]))]
    congr 2
    rw [deq_str]
    exact decide_eq_false (joinL_ne n1 n2)
  have gi : gIsi "str" (.str (joinL [10] ls)) = some (.bl true) := rfl
  have io : itemsOf (.lst true (ls.map D.str)) = some (ls.map D.str) := itemsOf_lst (clos_strs ls)
  have b0 : bk true [] [] [] = bkA true ls 0 := rfl
  have lp : (pairs 0 (ls.map D.str)).length = ls.length := by
    have : ∀ (ds : List D) (k : Nat), (pairs k ds).length = ds.length := by
      intro ds
      induction ds with
      | nil => intro k; rfl
      | cons d ds ih => intro k; show (_ :: pairs (k + 1) ds).length = _; rw [List.length_cons, ih, List.length_cons]
    rw [this, List.length_map]
  have turn := fun (i : Nat) (l : List Nat) (hl : ls[i]? = some l) (hp : ∀ k, k < i → goodAt ls k = true) => readTurn hls hl41 hl hp (joinL [10] ls)
  have item : ∀ (i : Nat) (d : D), (pairs 0 (ls.map D.str))[i]? = some d → ∃ l, ls[i]? = some l ∧ d = D.tup [.int (i : Int), .str l] := fun i d hd => by
    obtain ⟨y, h1, h2⟩ := pairs_get hd
    rw [List.getElem?_map] at h1
    obtain ⟨x, h3, h4⟩ := Option.map_eq_some_iff.mp h1
    exact ⟨x, h3, by rw [h2, ← h4, Nat.zero_add]⟩
  rw [b0] at fi
  cases ht with
  | all h =>
    left
    refine ⟨rfl, ?_⟩
    have lo := loop_allB (fg := fgTup 2 (fgCons (fgName 2) (fgCons (fgName 3) (fgNil)))) (fb := (fWipe [2, 3, 4, 5, 6] (fSeq (fAsg (fgTup 3 (fgCons (fgName 4) (fgCons (fgName 5) (fgCons (fgName 6) (fgNil))))) (fM1 gPartition (fVar 3) (fC (.str [32]))))
    (fSeq (fIfS (ftOr (ftB (fOp gEq (fVar 5) (fC (.str [])))) (ftOr (ftNot (ftB (fCall F_is_word (fCons (fVar 4) (fNil))))) (ftOr (ftNot (ftB (fCall F_is_worth (fCons (fVar 6) (fNil))))) (ftB (fMeth "Book" "has" F_Book_has [] (fVar 1) (fCons (fVar 4) (fNil))))))) (fSeq (fRaise1 "NoLine" "line" (fVar 2))
    (fNext)) (fNext))
    (fSeq (fDropM (fMethM "Book" "put" [true, false, false] F_Book_put [] (fplVar 1) (faCl (fVar 4) (faCl (fApp gInt (fCons (fVar 6) (fNil))) (faNil)))))
    (fNext)))))) (ds := pairs 0 (ls.map D.str)) (fun i => [.bor (.str (joinL [10] ls)), .own (bkA true ls i), .no, .no, .no, .no, .no]) (fun i d hd => by
      obtain ⟨l, hl, rfl⟩ := item i d hd
      have hi := (List.getElem?_eq_some_iff.mp hl).1
      exact ⟨_, rfl, (turn i l hl fun k hk => h k (by omega)).1 (h i hi)⟩)
    rw [lp] at lo
    unfold F_read_book b_read_book
    clear turn item hls h jl jl2 n1 n2 b0 lp
    generalize bkA true ls ls.length = B2 at *
    generalize bkA true ls 0 = B0 at *
    generalize joinL [10] ls = T at *
    generalize ls.map D.str = LD at *
    walk_at "exs"
  | at_ _ h1 h2 h3 =>
    right
    refine ⟨rfl, ?_⟩
    have lo := loop_toB (fg := fgTup 2 (fgCons (fgName 2) (fgCons (fgName 3) (fgNil)))) (fb := (fWipe [2, 3, 4, 5, 6] (fSeq (fAsg (fgTup 3 (fgCons (fgName 4) (fgCons (fgName 5) (fgCons (fgName 6) (fgNil))))) (fM1 gPartition (fVar 3) (fC (.str [32]))))
    (fSeq (fIfS (ftOr (ftB (fOp gEq (fVar 5) (fC (.str [])))) (ftOr (ftNot (ftB (fCall F_is_word (fCons (fVar 4) (fNil))))) (ftOr (ftNot (ftB (fCall F_is_worth (fCons (fVar 6) (fNil))))) (ftB (fMeth "Book" "has" F_Book_has [] (fVar 1) (fCons (fVar 4) (fNil))))))) (fSeq (fRaise1 "NoLine" "line" (fVar 2))
    (fNext)) (fNext))
    (fSeq (fDropM (fMethM "Book" "put" [true, false, false] F_Book_put [] (fplVar 1) (faCl (fVar 4) (faCl (fApp gInt (fCons (fVar 6) (fNil))) (faNil)))))
    (fNext)))))) (ds := pairs 0 (ls.map D.str)) (o := .exc ⟨"NoLine", ["line"], [.int (j : Int)]⟩) (fun i => [.bor (.str (joinL [10] ls)), .own (bkA true ls i), .no, .no, .no, .no, .no]) (j := j) (by rw [lp]; exact h1) (fun i d hij hd => by
      obtain ⟨l, hl, rfl⟩ := item i d hd
      exact ⟨_, rfl, (turn i l hl fun k hk => h3 k (by omega)).1 (h3 i hij)⟩) (fun d hd => by
      obtain ⟨l, hl, rfl⟩ := item j d hd
      exact ⟨_, rfl, (turn j l hl h3).2 h2⟩)
    unfold F_read_book b_read_book
    clear turn item hls h2 h3 jl jl2 n1 n2 b0 lp
    generalize bkA true ls = BF at *
    generalize joinL [10] ls = T at *
    generalize ls.map D.str = LD at *
    walk_at "exs"
    exact halts_seq lo
noncomputable def b__law_kinds : FS :=
    fSeq (fSetZ 1 (fApp gLst' (fCons (fIsX [("NoLine", false), ("NoWord", false), ("NotThere", false), ("Twice", false)] (fVar 0)) (fCons (fIsX [("NoLine", false), ("NoWord", false), ("NotThere", false), ("Twice", false)] (fVar 0)) (fCons (fIsX [("NoLine", false), ("NoWord", true), ("NotThere", false), ("Twice", false)] (fVar 0)) (fCons (fIsX [("NoLine", false), ("NoWord", false), ("NotThere", false), ("Twice", true)] (fVar 0)) (fNil)))))))
    (fSeq (fSetZ 1 (fOp gAdd (fVar 1) (fApp gLst' (fCons (fIsX [("NoLine", false), ("NoWord", false), ("NotThere", true), ("Twice", false)] (fVar 0)) (fCons (fIsX [("NoLine", true), ("NoWord", false), ("NotThere", false), ("Twice", false)] (fVar 0)) (fCons (fIsX [("NoLine", false), ("NoWord", false), ("NotThere", false), ("Twice", false)] (fVar 0)) (fCons (fIsX [("NoLine", false), ("NoWord", false), ("NotThere", false), ("Twice", false)] (fVar 0)) (fNil))))))))
    (fSeq (fSetZ 1 (fOp gAdd (fVar 1) (fApp gLst' (fCons (fIsX [("NoLine", false), ("NoWord", false), ("NotThere", false), ("Twice", false)] (fVar 0)) (fCons (fIsX [("NoLine", false), ("NoWord", false), ("NotThere", false), ("Twice", false)] (fVar 0)) (fCons (fIsX [("NoLine", false), ("NoWord", false), ("NotThere", false), ("Twice", false)] (fVar 0)) (fCons (fIsX [("NoLine", false), ("NoWord", false), ("NotThere", false), ("Twice", false)] (fVar 0)) (fNil))))))))
    (fSeq (fRet (fLc (fiRng1 (fC (.int 12))) (fgName 2) (ftB (fOp gIx2 (fVar 1) (fVar 2))) (fClo (fVar 2)) [2]))
    (fNext))))
noncomputable def F__law_kinds : List D → O D := fDef 1 3 b__law_kinds
noncomputable def b__law_at : FS :=
    fSeq (fSet 1 (fC .non))
    (fSeq (fSet 2 (fC .non))
    (fSeq (fTryK [("NoLine", true), ("NoWord", true), ("NotThere", true), ("Twice", true)] 3 1 (fSeq (fSetZ 2 (fCall F_read_book (fCons (fVar 0) (fNil))))
    (fNext)))
    (fSeq (fIfS (ftB (fOp gIs (fVar 1) (fC .non))) (fSeq (fRet (fApp gTup' (fCons (fNeg (fC (.int 1))) (fCons (fClo (fVar 2)) (fNil)))))
    (fNext)) (fNext))
    (fSeq (fIfS (ftOr (ftNot (ftB (fIsX [("NoLine", true), ("NoWord", true), ("NotThere", true), ("Twice", true)] (fVar 1)))) (ftB (fOp gNe (fCall F__law_kinds (fCons (fVar 1) (fNil))) (fApp gLst' (fCons (fC (.int 5)) (fNil)))))) (fSeq (fRet (fApp gTup' (fCons (fNeg (fC (.int 2))) (fCons (fC .non) (fNil)))))
    (fNext)) (fNext))
    (fSeq (fRet (fApp gTup' (fCons (fXfK ["NoLine"] "line" (fVar 1)) (fCons (fC .non) (fNil)))))
    (fNext))))))
noncomputable def F__law_at : List D → O D := fDef 1 4 b__law_at
noncomputable def b_law : FS :=
    fSeq (fSetZ 1 (fCall F__law_lines (fCons (fVar 0) (fNil))))
    (fSeq (fAsg (fgTup 2 (fgCons (fgName 2) (fgCons (fgName 3) (fgNil)))) (fCall F__law_due (fCons (fVar 1) (fNil))))
    (fSeq (fIfS (ftB (fOp gEq (fVar 1) (fApp gLst' (fNil)))) (fSeq (fSet 2 (fNeg (fC (.int 1))))
    (fNext)) (fNext))
    (fSeq (fAsg (fgTup 2 (fgCons (fgName 4) (fgCons (fgName 5) (fgNil)))) (fCall F__law_at (fCons (fM1 gJoin (fC (.str [10])) (fVar 1)) (fNil))))
    (fSeq (fIfS (ftOr (ftB (fIsi "bool" (fVar 4))) (ftB (fOp gNe (fVar 4) (fVar 2)))) (fSeq (fRet (fC (.bl false)))
    (fNext)) (fNext))
    (fSeq (fIfS (ftB (fOp (gB fun i j => decide (j ≤ i)) (fVar 2) (fC (.int 0)))) (fSeq (fRet (fOp gEq (fOp gIx2 (fCall F__law_at (fCons (fOp gIx2 (fApp gLst' (fCons (fC .non) (fCons (fC (.int 7)) (fCons (fClo (fVar 1)) (fCons (fApp gTup' (fCons (fC (.str [97, 98, 32, 55])) (fNil))) (fNil)))))) (fOp gMod (fCall F__law_cell_at (fCons (fVar 0) (fCons (fC (.int 1)) (fNil)))) (fC (.int 4)))) (fNil))) (fC (.int 0))) (fC (.int 0))))
    (fNext)) (fNext))
    (fSeq (fPre [6, 7] (fForD 3 (fgName 6) (fun ks ds => fWipe [6, 7] (fSeq (fSetZ 7 (fMeth "Book" "worth" F_Book_worth [] (fVar 5) (fCons (fVar 6) (fNil))))
    (fSeq (fIfS (ftOr (ftNot (ftB (fIsi "int" (fVar 7)))) (ftB (fOp gNe (fVar 7) (fPinIx 3 ks ds (fVar 6))))) (fSeq (fRet (fC (.bl false)))
    (fNext)) (fNext))
    (fNext))))))
    (fSeq (fRet (fOp gEq (fMeth "Book" "words" F_Book_words [] (fVar 5) (fNil)) (fApp gSortS (fCons (fVar 3) (fNil)))))
    (fNext))))))))
noncomputable def F_law : List D → O D := fDef 1 8 b_law
/-! ### the law k19 -/
theorem frz_bk19 (w : List (List Nat × Int)) (r : List (List Nat)) (m : List (NK × Int)) : frz (bk true w r m) = bk false w r m := by
  unfold bk bookD wD bD
  simp only [frz, frzs]
  rw [frzs_clos (clos_strs r), frzs_clos (wD_clos w), frzs_clos (clos_map (fun _ => rfl) _)]
theorem clo_bk19 (w : List (List Nat × Int)) (r : List (List Nat)) (m : List (NK × Int)) : clo (bk false w r m) = true := by
  unfold bk bookD wD bD
  simp only [clo, clos]
  rw [wD_clos w, clos_strs r, clos_map (f := fun p : NK × Int => D.int p.2) (fun _ => rfl) m]; rfl
theorem F_kinds5 (z : Int) : F__law_kinds [.xc "NoLine" ["line"] [.int z]] = .ok (.lst true [.int 5]) := by
  have i0 : gIsX [("NoLine", false), ("NoWord", false), ("NotThere", false), ("Twice", false)] (.xc "NoLine" ["line"] [.int z]) = some (.bl false) := rfl
  have i1 : gIsX [("NoLine", false), ("NoWord", true), ("NotThere", false), ("Twice", false)] (.xc "NoLine" ["line"] [.int z]) = some (.bl false) := rfl
  have i2 : gIsX [("NoLine", false), ("NoWord", false), ("NotThere", false), ("Twice", true)] (.xc "NoLine" ["line"] [.int z]) = some (.bl false) := rfl
  have i3 : gIsX [("NoLine", false), ("NoWord", false), ("NotThere", true), ("Twice", false)] (.xc "NoLine" ["line"] [.int z]) = some (.bl false) := rfl
  have i4 : gIsX [("NoLine", true), ("NoWord", false), ("NotThere", false), ("Twice", false)] (.xc "NoLine" ["line"] [.int z]) = some (.bl true) := rfl
  have l4 : ∀ a b c d : D, gLst' [a, b, c, d] = some (.lst true [a, b, c, d]) := fun a b c d => gLst_ok (by simp)
  have a1 : gAdd (.lst false [.bl false, .bl false, .bl false, .bl false]) (.lst true [.bl false, .bl true, .bl false, .bl false]) = some (.lst true [.bl false, .bl false, .bl false, .bl false, .bl false, .bl true, .bl false, .bl false]) := gAdd_lst rfl rfl (by simp)
  have a2 : gAdd (.lst false [.bl false, .bl false, .bl false, .bl false, .bl false, .bl true, .bl false, .bl false]) (.lst true [.bl false, .bl false, .bl false, .bl false]) = some (.lst true [.bl false, .bl false, .bl false, .bl false, .bl false, .bl true, .bl false, .bl false, .bl false, .bl false, .bl false, .bl false]) := gAdd_lst rfl rfl (by simp)
  have rg : rngO (.int 12) = .ok (rngD 12) := rngO_nat (n := 12) (by omega)
  have lc : lcF (fgName 2) (ftB (fOp gIx2 (fVar 1) (fVar 2))) (fClo (fVar 2)) [.bor (.xc "NoLine" ["line"] [.int z]), .own (.lst false [.bl false, .bl false, .bl false, .bl false, .bl false, .bl true, .bl false, .bl false, .bl false, .bl false, .bl false, .bl false]), .no] (rngD 12) [] = .ok (.lst true [.int 5]) := by
    rw [show rngD 12 = (List.range 12).map fun (k : Nat) => D.int (k : Int) from rfl, lcF_filter (f := fun (k : Nat) => D.int (k : Int)) (fun k => k == 5) (fun k hk => ?_) (by simp)]
    · rfl
    · have hk := List.mem_range.mp hk
      have ix : gIx2 (.lst false [.bl false, .bl false, .bl false, .bl false, .bl false, .bl true, .bl false, .bl false, .bl false, .bl false, .bl false, .bl false]) (.int (k : Int)) = some (.bl (k == 5)) := by
        rcases (show k = 0 ∨ k = 1 ∨ k = 2 ∨ k = 3 ∨ k = 4 ∨ k = 5 ∨ k = 6 ∨ k = 7 ∨ k = 8 ∨ k = 9 ∨ k = 10 ∨ k = 11 by omega) with q | q | q | q | q | q | q | q | q | q | q | q <;> subst q <;> rfl
      refine ⟨_, rfl, ?_, fun _ => rfl⟩
      generalize D.lst false [.bl false, .bl false, .bl false, .bl false, .bl false, .bl true, .bl false, .bl false, .bl false, .bl false, .bl false, .bl false] = LD at *
      generalize (k == 5) = bb at *
      clear hk i0 i1 i2 i3 i4 a1 a2
      walk_at "exs"
  unfold F__law_kinds b__law_kinds
  generalize D.xc "NoLine" ["line"] [.int z] = X at *
  walk_at "exs"
theorem F_atO {d B : D} (h : F_read_book [d] = .ok B) (hc : clo (frz B) = true) : F__law_at [d] = .ok (.tup [.int (-1), frz B]) := by
  have nn : isNon .non = true := rfl
  have g2 : gTup' [.int (-1), frz B] = some (.tup [.int (-1), frz B]) := by simp [gTup']
  unfold F__law_at b__law_at
  walk_at "exs"
theorem F_atX {d : D} {z : Int} (h : F_read_book [d] = .exc ⟨"NoLine", ["line"], [.int z]⟩) : F__law_at [d] = .ok (.tup [.int z, .non]) := by
  have fk := F_kinds5 z
  have lk : List.lookup ("NoLine" : Str) [("NoLine", true), ("NoWord", true), ("NotThere", true), ("Twice", true)] = some true := rfl
  have nn : isNon (.xc "NoLine" ["line"] [.int z]) = false := rfl
  have iv : gIsX [("NoLine", true), ("NoWord", true), ("NotThere", true), ("Twice", true)] (.xc "NoLine" ["line"] [.int z]) = some (.bl true) := rfl
  have m1 : gLst' [.int 5] = some (.lst true [.int 5]) := gLst_ok (by simp)
  have ne : gNe (.lst true [.int 5]) (.lst true [.int 5]) = some (.bl false) := by
    rw [gNe_of (shO_of 1 (by simp [sh, shs])) (shO_of 1 (by simp [sh, shs])), deq_lst]; simp
  have xf : gXf ["NoLine"] "line" (.xc "NoLine" ["line"] [.int z]) = some (.int z) := rfl
  have g2 : gTup' [.int z, .non] = some (.tup [.int z, .non]) := by simp [gTup']
  unfold F__law_at b__law_at
  generalize hX : D.xc "NoLine" ["line"] [.int z] = X at *
  walk_at "exs"
theorem sum_le19 {ls : List (List Nat)} {n : Nat} (h : ∀ l ∈ ls, l.length ≤ n) : (ls.map (·.length)).sum ≤ ls.length * n := by
  induction ls with
  | nil => simp
  | cons l ls ih =>
    have h1 := h l (by simp)
    have h2 := ih fun x hx => h x (by simp [hx])
    rw [List.map_cons, List.sum_cons, List.length_cons, Nat.add_mul, Nat.one_mul]
    omega
theorem law_true : ∀ ns : List Int, ns.length ≤ 63 → F_law [.ro (ns.map D.int)] = .ok (.bl true) := by
  intro ns hns
  have e1 : F__law_cell_at [.ro (ns.map D.int), .int 1] = .ok (.int (cellAt ns 1)) := F_cell ns 1
  obtain ⟨ls, fl, hls, hl41, hn1⟩ := F_lines ns
  obtain ⟨z, j, ht⟩ := told_ex ls
  have fd := F_ldue hls hl41 ht
  have cL := clos_strs ls
  have fzL : frzs (ls.map D.str) = ls.map D.str := frzs_clos cL
  have m0 : gLst' [] = some (.lst true []) := gLst_ok (by simp)
  have gj := gJoin_strs false [10] ls (by
    have := sum_le19 (ls := ls) (n := 100) fun l hl => (hls l hl).1
    rw [List.length_singleton]; omega)
  have shL : ∀ o, shO (.lst o (ls.map D.str)) = true := fun o => shO_of 1 (by
    rw [sh]
    refine shs_map fun l hl => ?_
    have hsg : ∀ a ∈ l, a < 1114112 := fun a ha => by have := ((hls l hl).2 a ha).1; omega
    simpa [sh] using hsg)
  have geL : gEq (.lst false (ls.map D.str)) (.lst true []) = some (.bl (decide (ls = []))) := by
    rw [gEq_of (shL false) (shO_of 1 (by simp [sh, shs])), deq_lst, show ([] : List D) = ([] : List (List Nat)).map D.str from rfl, deqs_map (f := D.str) (fun x y => deq_str x y)]
  have nb : gIsi "bool" (.int z) = some (.bl false) := rfl
  have nz : gNe (.int z) (.int z) = some (.bl false) := by
    rw [gNe_of (shO_of 0 (by simp [sh])) (shO_of 0 (by simp [sh]))]; simp
  -- what reading the text says
  have key : (z = -1 ∧ ∃ n, F_read_book [.str (joinL [10] ls)] = .ok (bkA true ls n) ∧ j = n ∧ BkOk n (wAt ls n) ((wAt ls n).map (·.1)) (mAt ls n) ∧ n ≤ 41) ∨ (z = (j : Int) ∧ ls ≠ [] ∧ F_read_book [.str (joinL [10] ls)] = .exc ⟨"NoLine", ["line"], [.int (j : Int)]⟩) := by
    by_cases h0 : ls = []
    · subst h0
      left
      cases ht with
      | all h => exact ⟨rfl, 0, F_read0, rfl, bkA_ok 0 (by simp) (fun k hk => by omega), by omega⟩
      | at_ _ h => exact absurd h (by simp)
    · have r := F_readT hls hl41 h0 hn1 ht
      cases ht with
      | all h =>
        rcases r with ⟨_, r⟩ | ⟨q, _⟩
        · exact .inl ⟨rfl, _, r, rfl, bkA_ok ls.length (Nat.le_refl _) h, hl41⟩
        · exfalso; omega
      | at_ _ h1 h2 h3 =>
        rcases r with ⟨q, _⟩ | ⟨_, r⟩
        · exfalso; omega
        · exact .inr ⟨rfl, h0, r⟩
  unfold F_law b_law
  rw [fDef_e 1 8 _ _ rfl]
  show (fSeq _ _ [.bor (.ro (ns.map D.int)), .no, .no, .no, .no, .no, .no, .no]).out = _
  rcases key with ⟨rfl, n, fr, rfl, ok, n41⟩ | ⟨rfl, h0, fr⟩
  · -- a book
    have fz : frz (bkA true ls j) = bkA false ls j := frz_bk19 _ _ _
    have cb : clo (bkA false ls j) = true := clo_bk19 _ _ _
    have fa := F_atO fr (by rw [fz]; exact cb)
    rw [fz] at fa
    have wl := ok.lw
    have q1 : F_Book_words [bkA false ls j] = .ok (.lst true ((sortW ((wAt ls j).map (·.1))).map .str)) := F_words false _ _ _ (by omega)
    have q2 := wD_sort true (wAt ls j) (by omega)
    have q3 : isObj "Book" "words" (bkA false ls j) = true := obj_words
    have q4 : isObj "Book" "worth" (bkA false ls j) = true := obj_worth
    have hS : ∀ l ∈ sortW ((wAt ls j).map (·.1)), isBW l = true := fun l hl => ok.kw l ((List.mergeSort_perm _ _).mem_iff.mp hl)
    have ge : gEq (.lst true ((sortW ((wAt ls j).map (·.1))).map D.str)) (.lst true ((sortW ((wAt ls j).map (·.1))).map D.str)) = some (.bl true) := by
      rw [gEq_of (shO_strs hS) (shO_strs hS), deq_lst, deqs_map (f := D.str) (fun x y => deq_str x y), decide_eq_true rfl]
    have n0 : ¬ (0 : Int) ≤ -1 := by decide
    -- the loop over the words
    have lo : loopF (fgName 6) (fWipe [6, 7] (fSeq (fSetZ 7 (fMeth "Book" "worth" F_Book_worth [] (fVar 5) (fCons (fVar 6) (fNil))))
    (fSeq (fIfS (ftOr (ftNot (ftB (fIsi "int" (fVar 7)))) (ftB (fOp gNe (fVar 7) (fPinIx 3 ((wAt ls j).map fun p => wK p.1) ((wAt ls j).map fun p => .int p.2) (fVar 6))))) (fSeq (fRet (fC (.bl false)))
    (fNext)) (fNext))
    (fNext)))) ((wAt ls j).map fun p => D.str p.1) [.bor (.ro (ns.map D.int)), .own (.lst false (ls.map .str)), .own (.int (-1)), .pin, .own (.int (-1)), .own (bkA false ls j), .no, .no] = .nx [.bor (.ro (ns.map D.int)), .own (.lst false (ls.map .str)), .own (.int (-1)), .pin, .own (.int (-1)), .own (bkA false ls j), .no, .no] := by
      refine loop_sameB fun d hd => ?_
      obtain ⟨p, hp, rfl⟩ := List.mem_map.mp hd
      have hk : p.1 ∈ (wAt ls j).map (·.1) := List.mem_map.mpr ⟨p, hp, rfl⟩
      have hb := ok.kw p.1 hk
      have hlen := isBW_len hb
      obtain ⟨v, hv⟩ := Option.isSome_iff_exists.mp (getA_some.mpr hk)
      have fw : F_Book_worth [bkA false ls j, .str p.1] = .ok (.int v) := F_worth false (wAt ls j) _ _ p.1 v (by omega) hb hv
      have ix := wD_pinIx (wAt ls j) p.1
      rw [hv] at ix
      have gi : gIsi "int" (.int v) = some (.bl true) := rfl
      have nv : gNe (.int v) (.int v) = some (.bl false) := by
        rw [gNe_of (shO_of 0 (by simp [sh])) (shO_of 0 (by simp [sh]))]; simp
      refine ⟨_, rfl, .inl ?_⟩
      clear hd hp hk hb hlen hv fr fa fd ok ht hls q1 q2 hS ge
      generalize bkA false ls j = B at *
      generalize ((wAt ls j).map fun p => wK p.1) = KW at *
      generalize ((wAt ls j).map fun p => D.int p.2) = DW at *
      generalize ls.map D.str = LD at *
      walk_at "exs"
    have fo := fForD_w (j := 3) (fg := fgName 6) (fb := fun ks ds => (fWipe [6, 7] (fSeq (fSetZ 7 (fMeth "Book" "worth" F_Book_worth [] (fVar 5) (fCons (fVar 6) (fNil))))
    (fSeq (fIfS (ftOr (ftNot (ftB (fIsi "int" (fVar 7)))) (ftB (fOp gNe (fVar 7) (fPinIx 3 ks ds (fVar 6))))) (fSeq (fRet (fC (.bl false)))
    (fNext)) (fNext))
    (fNext))))) (env := [.bor (.ro (ns.map D.int)), .own (.lst false (ls.map .str)), .own (.int (-1)), .own (wD true (wAt ls j)), .own (.int (-1)), .own (bkA false ls j), .no, .no]) (W := wAt ls j) rfl
    rw [show List.set [Sl.bor (.ro (ns.map D.int)), .own (.lst false (ls.map .str)), .own (.int (-1)), .own (wD true (wAt ls j)), .own (.int (-1)), .own (bkA false ls j), .no, .no] 3 .pin = [.bor (.ro (ns.map D.int)), .own (.lst false (ls.map .str)), .own (.int (-1)), .pin, .own (.int (-1)), .own (bkA false ls j), .no, .no] from rfl, lo, unpinD_nx rfl] at fo
    replace fo : _ = R.nx [.bor (.ro (ns.map D.int)), .own (.lst false (ls.map .str)), .own (.int (-1)), .own (wD true (wAt ls j)), .own (.int (-1)), .own (bkA false ls j), .no, .no] := fo
    clear lo ht hls hS ok wl fr fz shL
    generalize (sortW ((wAt ls j).map (·.1))).map D.str = SD at *
    generalize joinL [10] ls = T at *
    generalize decide (ls = []) = dd at *
    generalize bkA false ls j = B at *
    generalize wD true (wAt ls j) = WD at *
    generalize ls.map D.str = LD at *
    refine cut33 (env1 := [.bor (.ro (ns.map D.int)), .own (.lst false LD), .no, .no, .no, .no, .no, .no]) ?_ ?_
    · as_aux_lemma =>
        walk_at "exs"
    refine cut33 (env1 := [.bor (.ro (ns.map D.int)), .own (.lst false LD), .own (.int (-1)), .own WD, .no, .no, .no, .no]) ?_ ?_
    · as_aux_lemma =>
        walk_at "exs"
    refine cut33 (env1 := [.bor (.ro (ns.map D.int)), .own (.lst false LD), .own (.int (-1)), .own WD, .no, .no, .no, .no]) ?_ ?_
    · cases dd <;> as_aux_lemma =>
        walk_at "exs"
    refine cut33 (env1 := [.bor (.ro (ns.map D.int)), .own (.lst false LD), .own (.int (-1)), .own WD, .own (.int (-1)), .own B, .no, .no]) ?_ ?_
    · as_aux_lemma =>
        walk_at "exs"
    refine cut33 (env1 := [.bor (.ro (ns.map D.int)), .own (.lst false LD), .own (.int (-1)), .own WD, .own (.int (-1)), .own B, .no, .no]) ?_ ?_
    · as_aux_lemma =>
        walk_at "exs"
    refine cut33 (env1 := [.bor (.ro (ns.map D.int)), .own (.lst false LD), .own (.int (-1)), .own WD, .own (.int (-1)), .own B, .no, .no]) ?_ ?_
    · as_aux_lemma =>
        walk_at "exs"
    refine cut33 (env1 := [.bor (.ro (ns.map D.int)), .own (.lst false LD), .own (.int (-1)), .own WD, .own (.int (-1)), .own B, .no, .no]) ?_ ?_
    · as_aux_lemma =>
        walk_at "exs"
    as_aux_lemma =>
      walk_at "exs"
  · -- a refusal
    have fa := F_atX fr
    have gf : decide (ls = []) = false := decide_eq_false h0
    rw [gf] at geL
    have j0 : (0 : Int) ≤ (j : Int) := by omega
    have g4 : ∀ a b c d : D, gLst' [a, b, c, d] = some (.lst true [a, b, c, d]) := fun a b c d => gLst_ok (by simp)
    have g2 : gTup' [.str [97, 98, 32, 55]] = some (.tup [.str [97, 98, 32, 55]]) := by simp [gTup']
    have clL : clo (.lst false (ls.map D.str)) = true := by simp only [clo]; rw [cL]; rfl
    have c0 := Int.emod_nonneg (cellAt ns 1) (show (4 : Int) ≠ 0 by decide)
    have c1 := Int.emod_lt_of_pos (cellAt ns 1) (show (0 : Int) < 4 by decide)
    obtain ⟨x, ix, hx⟩ : ∃ x, atI [.non, .int 7, .lst false (ls.map D.str), .tup [.str [97, 98, 32, 55]]] (cellAt ns 1 % 4) = some x ∧ gIsi "str" x = some (.bl false) := by
      rcases (show cellAt ns 1 % 4 = 0 ∨ cellAt ns 1 % 4 = 1 ∨ cellAt ns 1 % 4 = 2 ∨ cellAt ns 1 % 4 = 3 by omega) with e | e | e | e <;> rw [e]
      · exact ⟨_, rfl, rfl⟩
      · exact ⟨_, rfl, rfl⟩
      · exact ⟨_, rfl, rfl⟩
      · exact ⟨_, rfl, rfl⟩
    have fx := F_atX (F_readX hx)
    have y0 : gIx2 (.tup [.int 0, .non]) (.int 0) = some (.int 0) := rfl
    have ge0 : gEq (.int 0) (.int 0) = some (.bl true) := by rw [gEq_int]; simp
    clear fr ht hls shL h0 gf hx c0 c1
    generalize joinL [10] ls = T at *
    generalize wD true (wAt ls j) = WD at *
    generalize ls.map D.str = LD at *
    generalize (j : Int) = jz at *
    refine cut33 (env1 := [.bor (.ro (ns.map D.int)), .own (.lst false LD), .no, .no, .no, .no, .no, .no]) ?_ ?_
    · as_aux_lemma =>
        walk_at "exs"
    refine cut33 (env1 := [.bor (.ro (ns.map D.int)), .own (.lst false LD), .own (.int jz), .own WD, .no, .no, .no, .no]) ?_ ?_
    · as_aux_lemma =>
        walk_at "exs"
    refine cut33 (env1 := [.bor (.ro (ns.map D.int)), .own (.lst false LD), .own (.int jz), .own WD, .no, .no, .no, .no]) ?_ ?_
    · as_aux_lemma =>
        walk_at "exs"
    refine cut33 (env1 := [.bor (.ro (ns.map D.int)), .own (.lst false LD), .own (.int jz), .own WD, .own (.int jz), .own .non, .no, .no]) ?_ ?_
    · as_aux_lemma =>
        walk_at "exs"
    refine cut33 (env1 := [.bor (.ro (ns.map D.int)), .own (.lst false LD), .own (.int jz), .own WD, .own (.int jz), .own .non, .no, .no]) ?_ ?_
    · as_aux_lemma =>
        walk_at "exs"
    as_aux_lemma =>
      walk_at "exs"
end CV
namespace CV
open PySem L2
def t_Book_words (Wp : Wp) (W : WX) : TS :=
    tSeq (tRet (tCB (uSortS Wp.K) (tCons (tFldN Wp "Book" "worths" (tVar 0)) (tNil))))
    (tNext)
theorem r_Book_words : ∀ (c : Cn) (W : WX), RS c W (t_Book_words c.W W) (b_Book_words) := fun c W =>
    (rs_seq (rs_ret (rp_cb cg_sortS (rav_cons (rv_fld rv_var) rav_nil)))
      rs_next)
def t_is_word (Wp : Wp) (W : WX) : TS :=
    tSeq (tIfS (tOr (tNot (tB (tCB (uIsi Wp.K) (tCons (tVar 0) (tCons (tC (.ty "str")) tNil))))) (tNot (tTest (tChain uLe uLe (tC (.int 2)) (tCB (uLen Wp.K) (tCons (tVar 0) (tNil))) (tC (.int 9)))))) (tSeq (tRet (tC (.bl false)))
    (tNext)) (tNext))
    (tSeq (tRet (tCB (rAll Wp.K) (tCons (tLc (iSq Wp.K (tVar 0)) (gName 1) (tYes) (tOp (xIn Wp) (tVar 1) (tC (.str (S [97, 98, 99, 100, 101, 102, 103, 104, 105, 106, 107, 108, 109, 110, 111, 112, 113, 114, 115, 116, 117, 118, 119, 120, 121, 122])))) [1]) (tNil))))
    (tNext))
theorem r_is_word : ∀ (c : Cn) (W : WX), RS c W (t_is_word c.W W) (b_is_word) := fun c W =>
    (rs_seq (rs_if (rt_or (rt_not (rt_b (RP.v (rp_isi rv_var)))) (rt_not (rt_test (RP.v (rp_chain og_le og_le (RP.v rp_int) (RV.p (RP.v (rp_cb cg_len (rav_cons rv_var rav_nil)))) (RP.v rp_int)))))) (rs_seq (rs_ret rp_bl)
      rs_next) rs_next)
      (rs_seq (rs_ret (rp_cb cg_all (rav_cons (RP.v (rp_lc (ri_sq rk_var) (rgw_name (by decide)) rt_yes (rp_op og_in2 rv_var (RP.v rp_str)))) rav_nil)))
      rs_next))
def t_Book_need (Wp : Wp) (W : WX) : TS :=
    tSeq (tIfS (tNot (tB (tCallS (spP Wp F_is_word) (WE W) (tCons (tVar 1) (tNil))))) (tSeq (tRaise1 Wp "NoWord" "word" (tVar 1) W)
    (tNext)) (tNext))
    (tSeq (tIfS (tTest (tOp (xNotIn Wp) (tVar 1) (tFldN Wp "Book" "worths" (tVar 0)))) (tSeq (tRaise1 Wp "NotThere" "word" (tVar 1) W)
    (tNext)) (tNext))
    (tNext))
theorem r_Book_need : ∀ (c : Cn) (W : WX), RS c W (t_Book_need c.W W) (b_Book_need) := fun c W =>
    (rs_seq (rs_if (rt_not (rt_b (RP.v (rp_call (rav_cons rv_var rav_nil))))) (rs_seq (rs_raise1 rv_var)
      rs_next) rs_next)
      (rs_seq (rs_if (rt_test (RP.v (rp_op og_notin2 rv_var (rv_fld rv_var)))) (rs_seq (rs_raise1 rv_var)
      rs_next) rs_next)
      rs_next))
def t_Book_worth (Wp : Wp) (W : WX) : TS :=
    tSeq (tDrop (tMethN Wp "Book" "need" (spP Wp F_Book_need) [] (WE W) (tVar 0) (tCons (tVar 1) (tNil))))
    (tSeq (tRet (tOp (xIx Wp) (tFldN Wp "Book" "worths" (tVar 0)) (tVar 1)))
    (tNext))
theorem r_Book_worth : ∀ (c : Cn) (W : WX), RS c W (t_Book_worth c.W W) (b_Book_worth) := fun c W =>
    (rs_seq (rs_drop (RP.v (rp_meth (fun _ _ => .nil) rv_var (rav_cons rv_var rav_nil))))
      (rs_seq (rs_ret (RV.p (rv_op ow_ix2 (rv_fld rv_var) rv_var)))
      rs_next))
def t__law_kinds (Wp : Wp) (W : WX) : TS :=
    tSeq (tAsg (tLst (tCons (tIsXK Wp [("NoLine", false), ("NoWord", false), ("NotThere", false), ("Twice", false)] (tVar 0)) (tCons (tIsXK Wp [("NoLine", false), ("NoWord", false), ("NotThere", false), ("Twice", false)] (tVar 0)) (tCons (tIsXK Wp [("NoLine", false), ("NoWord", true), ("NotThere", false), ("Twice", false)] (tVar 0)) (tCons (tIsXK Wp [("NoLine", false), ("NoWord", false), ("NotThere", false), ("Twice", true)] (tVar 0)) (tNil)))))) (gName 1))
    (tSeq (tAsg (tOp (wAdd Wp.K) (tVar 1) (tLst (tCons (tIsXK Wp [("NoLine", false), ("NoWord", false), ("NotThere", true), ("Twice", false)] (tVar 0)) (tCons (tIsXK Wp [("NoLine", true), ("NoWord", false), ("NotThere", false), ("Twice", false)] (tVar 0)) (tCons (tIsXK Wp [("NoLine", false), ("NoWord", false), ("NotThere", false), ("Twice", false)] (tVar 0)) (tCons (tIsXK Wp [("NoLine", false), ("NoWord", false), ("NotThere", false), ("Twice", false)] (tVar 0)) (tNil))))))) (gName 1))
    (tSeq (tAsg (tOp (wAdd Wp.K) (tVar 1) (tLst (tCons (tIsXK Wp [("NoLine", false), ("NoWord", false), ("NotThere", false), ("Twice", false)] (tVar 0)) (tCons (tIsXK Wp [("NoLine", false), ("NoWord", false), ("NotThere", false), ("Twice", false)] (tVar 0)) (tCons (tIsXK Wp [("NoLine", false), ("NoWord", false), ("NotThere", false), ("Twice", false)] (tVar 0)) (tCons (tIsXK Wp [("NoLine", false), ("NoWord", false), ("NotThere", false), ("Twice", false)] (tVar 0)) (tNil))))))) (gName 1))
    (tSeq (tRet (tLc (iRng1 (tCons (tC (.int 12)) (tNil))) (gName 2) (tB (tOp (xIx Wp) (tVar 1) (tVar 2))) (tVar 2) [2]))
    (tNext))))
theorem r__law_kinds : ∀ (c : Cn) (W : WX), RS c W (t__law_kinds c.W W) (b__law_kinds) := fun c W =>
    (rs_seq (rs_setZ (rp_lst (rap_cons (rp_isX rv_var) (rap_cons (rp_isX rv_var) (rap_cons (rp_isX rv_var) (rap_cons (rp_isX rv_var) rap_nil))))))
      (rs_seq (rs_setZ (rp_op og_add rv_var (RP.v (rp_lst (rap_cons (rp_isX rv_var) (rap_cons (rp_isX rv_var) (rap_cons (rp_isX rv_var) (rap_cons (rp_isX rv_var) rap_nil))))))))
      (rs_seq (rs_setZ (rp_op og_add rv_var (RP.v (rp_lst (rap_cons (rp_isX rv_var) (rap_cons (rp_isX rv_var) (rap_cons (rp_isX rv_var) (rap_cons (rp_isX rv_var) rap_nil))))))))
      (rs_seq (rs_ret (rp_lc (ri_rng1 (RP.v rp_int)) (rgw_name (by decide)) (rt_b (rv_op ow_ix2 rv_var rv_var)) (RV.p rv_var)))
      rs_next))))
def t_Book_turn_bits (Wp : Wp) (W : WX) : TS :=
    tSeq (tAsg (tOp uShl (tC (.int 1)) (tVar 2)) (gName 3))
    (tSeq (tAsg (tOp uXor (tMGet2 Wp.w (tFldN Wp "Book" "bits" (tVar 0)) (tCB (uLen Wp.K) (tCons (tVar 1) (tNil))) (tC (.int 0))) (tVar 3)) (gSub (tFldN Wp "Book" "bits" (tVar 0)) (tCB (uLen Wp.K) (tCons (tVar 1) (tNil))) (uSet Wp)))
    (tSeq (tFor (iEnumU Wp.K (tCons (tVar 1) tNil)) (gTup Wp.K 2 (gCons (gName 4) (gCons (gName 5) (gNil)))) (tSeq (tAsg (tTup (tCons (tCB (uLen Wp.K) (tCons (tVar 1) (tNil))) (tCons (tVar 4) (tCons (tVar 5) (tNil))))) (gName 6))
    (tSeq (tAsg (tOp uXor (tMGet2 Wp.w (tFldN Wp "Book" "bits" (tVar 0)) (tVar 6) (tC (.int 0))) (tVar 3)) (gSub (tFldN Wp "Book" "bits" (tVar 0)) (tVar 6) (uSet Wp)))
    (tNext))))
    (tNext)))
theorem r_Book_turn_bits : ∀ (c : Cn) (W : WX), RS c W (t_Book_turn_bits c.W W) (b_Book_turn_bits) := fun c W =>
    (rs_seq (rs_set (rp_op og_shl (RP.v rp_int) rv_var))
      (rs_seq (rs_storeP (RP.v (rp_op og_xor (RP.v (rp_get2 (rv_fld rv_var) (RP.v (rp_cb cg_len (rav_cons rv_var rav_nil))) rp_int)) rv_var)) (rpl_fld rpl_var) (RP.v (rp_cb cg_len (rav_cons rv_var rav_nil))))
      (rs_seq (rs_pre (rs_for (ri_enum rk_var) (rg_tup (rgs_cons rg_name (rgs_cons rg_name rgs_nil))) (rs_wipe (rs_seq (rs_setZ (rp_tup (rap_cons (rp_cb cg_len (rav_cons rv_var rav_nil)) (rap_cons (RV.p rv_var) (rap_cons (RV.p rv_var) rap_nil)))))
      (rs_seq (rs_storeP (RP.v (rp_op og_xor (RP.v (rp_get2 (rv_fld rv_var) rv_var rp_int)) rv_var)) (rpl_fld rpl_var) rv_var)
      rs_next)))))
      rs_next)))
def t_Book_put (Wp : Wp) (W : WX) : TS :=
    tSeq (tIfS (tNot (tB (tCallS (spP Wp F_is_word) (WE W) (tCons (tVar 1) (tNil))))) (tSeq (tRaise1 Wp "NoWord" "word" (tVar 1) W)
    (tNext)) (tNext))
    (tSeq (tIfS (tTest (tOp (xIn Wp) (tVar 1) (tFldN Wp "Book" "worths" (tVar 0)))) (tSeq (tRaise1 Wp "Twice" "word" (tVar 1) W)
    (tNext)) (tNext))
    (tSeq (tAsg (tVar 2) (gSub (tFldN Wp "Book" "worths" (tVar 0)) (tVar 1) (uSet Wp)))
    (tSeq (tDrop (tMethN Wp "Book" "turn_bits" (spM Wp [true, false, false] F_Book_turn_bits) [] (WE W) (tVar 0) (tCons (tVar 1) (tCons (tCB (uLen Wp.K) (tCons (tFldN Wp "Book" "row" (tVar 0)) (tNil))) (tNil)))))
    (tSeq (tDrop (tBM Wp.K "list" rAppend (tFldN Wp "Book" "row" (tVar 0)) (tCons (tVar 1) tNil)))
    (tNext)))))
theorem r_Book_put : ∀ (c : Cn) (W : WX), RS c W (t_Book_put c.W W) (b_Book_put) := fun c W =>
    (rs_seq (rs_if (rt_not (rt_b (RP.v (rp_call (rav_cons rv_var rav_nil))))) (rs_seq (rs_raise1 rv_var)
      rs_next) rs_next)
      (rs_seq (rs_if (rt_test (RP.v (rp_op og_in2 rv_var (rv_fld rv_var)))) (rs_seq (rs_raise1 rv_var)
      rs_next) rs_next)
      (rs_seq (rs_storeP rv_var (rpl_fld rpl_var) rv_var)
      (rs_seq (rs_dropM (rm_meth (fun _ _ => .nil) rpl_var (rar_cl rv_var (rar_cl (RP.v (rp_cb cg_len (rav_cons (rv_fld rv_var) rav_nil))) rar_nil))))
      (rs_seq (rs_appendP (rpl_fld rpl_var) rv_var)
      rs_next)))))
def t_is_worth (Wp : Wp) (W : WX) : TS :=
    tSeq (tIfS (tOr (tNot (tTest (tChain uLe uLe (tC (.int 1)) (tCB (uLen Wp.K) (tCons (tVar 0) (tNil))) (tC (.int 60))))) (tAnd (tTest (tOp (uEq Wp.K) (tOp (xIx Wp) (tVar 0) (tC (.int 0))) (tC (.str (S [48]))))) (tTest (tOp (uNe Wp.K) (tVar 0) (tC (.str (S [48]))))))) (tSeq (tRet (tC (.bl false)))
    (tNext)) (tNext))
    (tSeq (tRet (tCB (rAll Wp.K) (tCons (tLc (iSq Wp.K (tVar 0)) (gName 1) (tYes) (tOp (xIn Wp) (tVar 1) (tC (.str (S [48, 49, 50, 51, 52, 53, 54, 55, 56, 57])))) [1]) (tNil))))
    (tNext))
theorem r_is_worth : ∀ (c : Cn) (W : WX), RS c W (t_is_worth c.W W) (b_is_worth) := fun c W =>
    (rs_seq (rs_if (rt_or (rt_not (rt_test (RP.v (rp_chain og_le og_le (RP.v rp_int) (RV.p (RP.v (rp_cb cg_len (rav_cons rv_var rav_nil)))) (RP.v rp_int))))) (rt_and (rt_test (RP.v (rp_op og_eq (rv_op ow_ix2 rv_var (RP.v rp_int)) (RP.v rp_str)))) (rt_test (RP.v (rp_op og_ne rv_var (RP.v rp_str)))))) (rs_seq (rs_ret rp_bl)
      rs_next) rs_next)
      (rs_seq (rs_ret (rp_cb cg_all (rav_cons (RP.v (rp_lc (ri_sq rk_var) (rgw_name (by decide)) rt_yes (rp_op og_in2 rv_var (RP.v rp_str)))) rav_nil)))
      rs_next))
def t_Book_has (Wp : Wp) (W : WX) : TS :=
    tSeq (tRet (tOp (xIn Wp) (tVar 1) (tFldN Wp "Book" "worths" (tVar 0))))
    (tNext)
theorem r_Book_has : ∀ (c : Cn) (W : WX), RS c W (t_Book_has c.W W) (b_Book_has) := fun c W =>
    (rs_seq (rs_ret (rp_op og_in2 rv_var (rv_fld rv_var)))
      rs_next)
def t_Book___init__ (Wp : Wp) (W : WX) : TS :=
    tSeq (sFldN Wp "Book" "worths" (tVar 0) (tDNewK))
    (tSeq (sFldN Wp "Book" "row" (tVar 0) (tLst (tNil)))
    (tSeq (sFldN Wp "Book" "bits" (tVar 0) (tDNewM Wp.w))
    (tNext)))
theorem r_Book___init__ : ∀ (c : Cn) (W : WX), RS c W (t_Book___init__ c.W W) (b_Book___init__) := fun c W =>
    (rs_seq (rs_fldSet rp_dnewK)
      (rs_seq (rs_fldSet (rp_lst rap_nil))
      (rs_seq (rs_fldSet rp_dnewM)
      rs_next)))
def t_read_book (Wp : Wp) (W : WX) : TS :=
    tSeq (tIfS (tNot (tB (tCB (uIsi Wp.K) (tCons (tVar 0) (tCons (tC (.ty "str")) tNil))))) (tSeq (tRaise1 Wp "NoLine" "line" (tC (.int 0)) W)
    (tNext)) (tNext))
    (tSeq (tAsg (tMakeN Wp "Book" (spM Wp [true] F_Book___init__) [] (WE W) (tNil)) (gName 1))
    (tSeq (tIfS (tTest (tOp (uEq Wp.K) (tVar 0) (tC (.str (S []))))) (tSeq (tRet (tVar 1))
    (tNext)) (tNext))
    (tSeq (tFor (iEnumU Wp.K (tCons (tM1 uSplit (tVar 0) (tC (.str (S [10])))) tNil)) (gTup Wp.K 2 (gCons (gName 2) (gCons (gName 3) (gNil)))) (tSeq (tAsg (tM1 rPartition (tVar 3) (tC (.str (S [32])))) (gTup Wp.K 3 (gCons (gName 4) (gCons (gName 5) (gCons (gName 6) (gNil))))))
    (tSeq (tIfS (tOr (tTest (tOp (uEq Wp.K) (tVar 5) (tC (.str (S []))))) (tOr (tNot (tB (tCallS (spP Wp F_is_word) (WE W) (tCons (tVar 4) (tNil))))) (tOr (tNot (tB (tCallS (spP Wp F_is_worth) (WE W) (tCons (tVar 6) (tNil))))) (tB (tMethN Wp "Book" "has" (spP Wp F_Book_has) [] (WE W) (tVar 1) (tCons (tVar 4) (tNil))))))) (tSeq (tRaise1 Wp "NoLine" "line" (tVar 2) W)
    (tNext)) (tNext))
    (tSeq (tDrop (tMethN Wp "Book" "put" (spM Wp [true, false, false] F_Book_put) [] (WE W) (tVar 1) (tCons (tVar 4) (tCons (tCB uInt (tCons (tVar 6) (tNil))) (tNil)))))
    (tNext)))))
    (tSeq (tRet (tVar 1))
    (tNext)))))
theorem r_read_book : ∀ (c : Cn) (W : WX), RS c W (t_read_book c.W W) (b_read_book) := fun c W =>
    (rs_seq (rs_if (rt_not (rt_b (RP.v (rp_isi rv_var)))) (rs_seq (rs_raise1 (RP.v rp_int))
      rs_next) rs_next)
      (rs_seq (rs_set (rp_make (fun _ _ => .nil) rar_nil))
      (rs_seq (rs_if (rt_test (RP.v (rp_op og_eq rv_var (RP.v rp_str)))) (rs_seq rs_retV
      rs_next) rs_next)
      (rs_seq (rs_pre (rs_for (ri_enum (RP.k (rp_m1 og_split rv_var (RP.v rp_str)))) (rg_tup (rgs_cons rg_name (rgs_cons rg_name rgs_nil))) (rs_wipe (rs_seq (rs_asg (rp_m1 og_partition rv_var (RP.v rp_str)) (rg_tup (rgs_cons rg_name (rgs_cons rg_name (rgs_cons rg_name rgs_nil)))))
      (rs_seq (rs_if (rt_or (rt_test (RP.v (rp_op og_eq rv_var (RP.v rp_str)))) (rt_or (rt_not (rt_b (RP.v (rp_call (rav_cons rv_var rav_nil))))) (rt_or (rt_not (rt_b (RP.v (rp_call (rav_cons rv_var rav_nil))))) (rt_b (RP.v (rp_meth (fun _ _ => .nil) rv_var (rav_cons rv_var rav_nil))))))) (rs_seq (rs_raise1 rv_var)
      rs_next) rs_next)
      (rs_seq (rs_dropM (rm_meth (fun _ _ => .nil) rpl_var (rar_cl rv_var (rar_cl (RP.v (rp_cb cg_int (rav_cons rv_var rav_nil))) rar_nil))))
      rs_next))))))
      (rs_seq rs_retV
      rs_next)))))
def t__law_at (Wp : Wp) (W : WX) : TS :=
    tSeq (tAsg (tC .non) (gName 1))
    (tSeq (tAsg (tC .non) (gName 2))
    (tSeq (tTryK Wp [("NoLine", true), ("NoWord", true), ("NotThere", true), ("Twice", true)] 3 (fun W1 => tSeq (tAsg (tCallS (spP Wp F_read_book) (WE W1) (tCons (tVar 0) (tNil))) (gName 2))
    (tNext)) (fun _ _ _ => tSeq (tAsg (tVar 3) (gName 1)) tNext) W)
    (tSeq (tIfS (tTest (tOp wIs (tVar 1) (tC .non))) (tSeq (tRet (tTup (tCons (tUn (rU fun i => .int (-i)) (tC (.int 1))) (tCons (tVar 2) (tNil)))))
    (tNext)) (tNext))
    (tSeq (tIfS (tOr (tNot (tB (tIsXK Wp [("NoLine", true), ("NoWord", true), ("NotThere", true), ("Twice", true)] (tVar 1)))) (tTest (tOp (uNe Wp.K) (tCallS (spP Wp F__law_kinds) (WE W) (tCons (tVar 1) (tNil))) (tLst (tCons (tC (.int 5)) (tNil)))))) (tSeq (tRet (tTup (tCons (tUn (rU fun i => .int (-i)) (tC (.int 2))) (tCons (tC .non) (tNil)))))
    (tNext)) (tNext))
    (tSeq (tRet (tTup (tCons (tXfK Wp ["NoLine"] "line" (tVar 1)) (tCons (tC .non) (tNil)))))
    (tNext))))))
theorem r__law_at : ∀ (c : Cn) (W : WX), RS c W (t__law_at c.W W) (b__law_at) := fun c W =>
    (rs_seq (rs_set rp_non)
      (rs_seq (rs_set rp_non)
      (rs_seq (rs_tryK (fun W1 => (rs_seq (rs_setZ (rp_call (rav_cons rv_var rav_nil)))
      rs_next)))
      (rs_seq (rs_if (rt_test (RP.v (rp_op og_is rv_var (RP.v rp_non)))) (rs_seq (rs_ret (rp_tup (rap_cons (rp_neg (RP.v rp_int)) (rap_cons (RV.p rv_var) rap_nil))))
      rs_next) rs_next)
      (rs_seq (rs_if (rt_or (rt_not (rt_b (RP.v (rp_isX rv_var)))) (rt_test (RP.v (rp_op og_ne (RP.v (rp_call (rav_cons rv_var rav_nil))) (RP.v (rp_lst (rap_cons rp_int rap_nil))))))) (rs_seq (rs_ret (rp_tup (rap_cons (rp_neg (RP.v rp_int)) (rap_cons rp_non rap_nil))))
      rs_next) rs_next)
      (rs_seq (rs_ret (rp_tup (rap_cons (rp_xfK rv_var) (rap_cons rp_non rap_nil))))
      rs_next))))))
def t__law_cell_at (Wp : Wp) (W : WX) : TS :=
    tSeq (tIfS (tTest (tOp uLt (tVar 1) (tCB (uLen Wp.K) (tCons (tVar 0) (tNil))))) (tSeq (tRet (tOp (xIx Wp) (tVar 0) (tVar 1)))
    (tNext)) (tNext))
    (tSeq (tRet (tC (.int 0)))
    (tNext))
theorem r__law_cell_at : ∀ (c : Cn) (W : WX), RS c W (t__law_cell_at c.W W) (b__law_cell_at) := fun c W =>
    (rs_seq (rs_if (rt_test (RP.v (rp_op og_lt rv_var (RP.v (rp_cb cg_len (rav_cons rv_var rav_nil)))))) (rs_seq (rs_ret (RV.p (rv_op ow_ix2 rv_var rv_var)))
      rs_next) rs_next)
      (rs_seq (rs_ret rp_int)
      rs_next))
def t__law_is_line (Wp : Wp) (W : WX) : TS :=
    tSeq (tAsg (tM1 rPartition (tVar 0) (tC (.str (S [32])))) (gTup Wp.K 3 (gCons (gName 1) (gCons (gName 2) (gCons (gName 3) (gNil))))))
    (tSeq (tIfS (tOr (tNot (tTest (tChain uLe uLe (tC (.int 2)) (tCB (uLen Wp.K) (tCons (tVar 1) (tNil))) (tC (.int 9))))) (tOr (tNot (tTest (tChain uLe uLe (tC (.int 1)) (tCB (uLen Wp.K) (tCons (tVar 3) (tNil))) (tC (.int 60))))) (tAnd (tTest (tOp (uEq Wp.K) (tOp (xIx Wp) (tVar 3) (tC (.int 0))) (tC (.str (S [48]))))) (tTest (tOp (uNe Wp.K) (tVar 3) (tC (.str (S [48])))))))) (tSeq (tRet (tC (.bl false)))
    (tNext)) (tNext))
    (tSeq (tFor (iSq Wp.K (tVar 1)) (gName 4) (tSeq (tIfS (tTest (tOp (xNotIn Wp) (tVar 4) (tC (.str (S [97, 98, 99, 100, 101, 102, 103, 104, 105, 106, 107, 108, 109, 110, 111, 112, 113, 114, 115, 116, 117, 118, 119, 120, 121, 122]))))) (tSeq (tRet (tC (.bl false)))
    (tNext)) (tNext))
    (tNext)))
    (tSeq (tFor (iSq Wp.K (tVar 3)) (gName 4) (tSeq (tIfS (tTest (tOp (xNotIn Wp) (tVar 4) (tC (.str (S [48, 49, 50, 51, 52, 53, 54, 55, 56, 57]))))) (tSeq (tRet (tC (.bl false)))
    (tNext)) (tNext))
    (tNext)))
    (tSeq (tRet (tC (.bl true)))
    (tNext)))))
theorem r__law_is_line : ∀ (c : Cn) (W : WX), RS c W (t__law_is_line c.W W) (b__law_is_line) := fun c W =>
    (rs_seq (rs_asg (rp_m1 og_partition rv_var (RP.v rp_str)) (rg_tup (rgs_cons rg_name (rgs_cons rg_name (rgs_cons rg_name rgs_nil)))))
      (rs_seq (rs_if (rt_or (rt_not (rt_test (RP.v (rp_chain og_le og_le (RP.v rp_int) (RV.p (RP.v (rp_cb cg_len (rav_cons rv_var rav_nil)))) (RP.v rp_int))))) (rt_or (rt_not (rt_test (RP.v (rp_chain og_le og_le (RP.v rp_int) (RV.p (RP.v (rp_cb cg_len (rav_cons rv_var rav_nil)))) (RP.v rp_int))))) (rt_and (rt_test (RP.v (rp_op og_eq (rv_op ow_ix2 rv_var (RP.v rp_int)) (RP.v rp_str)))) (rt_test (RP.v (rp_op og_ne rv_var (RP.v rp_str))))))) (rs_seq (rs_ret rp_bl)
      rs_next) rs_next)
      (rs_seq (rs_pre (rs_for (ri_sq rk_var) rg_name (rs_wipe (rs_seq (rs_if (rt_test (RP.v (rp_op og_notin2 rv_var (RP.v rp_str)))) (rs_seq (rs_ret rp_bl)
      rs_next) rs_next)
      rs_next))))
      (rs_seq (rs_pre (rs_for (ri_sq rk_var) rg_name (rs_wipe (rs_seq (rs_if (rt_test (RP.v (rp_op og_notin2 rv_var (RP.v rp_str)))) (rs_seq (rs_ret rp_bl)
      rs_next) rs_next)
      rs_next))))
      (rs_seq (rs_ret rp_bl)
      rs_next)))))
def t__law_due (Wp : Wp) (W : WX) : TS :=
    tSeq (tAsg (tDNewK) (gName 1))
    (tSeq (tFor (iRng1 (tCons (tCB (uLen Wp.K) (tCons (tVar 0) (tNil))) (tNil))) (gName 2) (tSeq (tAsg (tM1 rPartition (tOp (xIx Wp) (tVar 0) (tVar 2)) (tC (.str (S [32])))) (gTup Wp.K 3 (gCons (gName 3) (gCons (gName 4) (gCons (gName 5) (gNil))))))
    (tSeq (tIfS (tOr (tNot (tB (tCallS (spP Wp F__law_is_line) (WE W) (tCons (tOp (xIx Wp) (tVar 0) (tVar 2)) (tNil))))) (tTest (tOp (xIn Wp) (tVar 3) (tVar 1)))) (tSeq (tRet (tTup (tCons (tVar 2) (tCons (tVar 1) (tNil)))))
    (tNext)) (tNext))
    (tSeq (tAsg (tCB uInt (tCons (tVar 5) (tNil))) (gSub (tVar 1) (tVar 3) (uSet Wp)))
    (tNext)))))
    (tSeq (tRet (tTup (tCons (tUn (rU fun i => .int (-i)) (tC (.int 1))) (tCons (tVar 1) (tNil)))))
    (tNext)))
theorem r__law_due : ∀ (c : Cn) (W : WX), RS c W (t__law_due c.W W) (b__law_due) := fun c W =>
    (rs_seq (rs_set rp_dnewK)
      (rs_seq (rs_pre (rs_for (ri_rng1 (RP.v (rp_cb cg_len (rav_cons rv_var rav_nil)))) rg_name (rs_wipe (rs_seq (rs_asg (rp_m1 og_partition (rv_op ow_ix2 rv_var rv_var) (RP.v rp_str)) (rg_tup (rgs_cons rg_name (rgs_cons rg_name (rgs_cons rg_name rgs_nil)))))
      (rs_seq (rs_if (rt_or (rt_not (rt_b (RP.v (rp_call (rav_cons (rv_op ow_ix2 rv_var rv_var) rav_nil))))) (rt_test (RP.v (rp_op og_in2 rv_var rv_var)))) (rs_seq (rs_retT (ram_cons (RV.p rv_var) (ram_mv ram_nil)))
      rs_next) rs_next)
      (rs_seq (rs_store (RP.v (rp_cb cg_int (rav_cons rv_var rav_nil))) rv_var)
      rs_next))))))
      (rs_seq (rs_retT (ram_cons (rp_neg (RP.v rp_int)) (ram_mv ram_nil)))
      rs_next)))
def t__law_word (Wp : Wp) (W : WX) : TS :=
    tSeq (tAsg (tC (.str (S [97, 98, 99, 100, 101, 102, 103, 104, 105, 106, 107, 108, 109, 110, 111, 112, 113, 114, 115, 116, 117, 118, 119, 120, 121, 122]))) (gName 2))
    (tSeq (tAsg (tCallS (spP Wp F__law_cell_at) (WE W) (tCons (tVar 0) (tCons (tC (.int 0)) (tNil)))) (gName 3))
    (tSeq (tAsg (tOp (wAdd Wp.K) (tC (.int 3)) (tOp uMod (tVar 3) (tC (.int 7)))) (gName 4))
    (tSeq (tAsg (tOp uMod (tOp uDiv (tVar 3) (tC (.int 7))) (tVar 4)) (gName 5))
    (tSeq (tAsg (tC (.str (S []))) (gName 6))
    (tSeq (tFor (iRng1 (tCons (tVar 4) (tNil))) (gName 7) (tSeq (tAsg (tOp (wAdd Wp.K) (tOp uDiv (tOp uDiv (tVar 3) (tC (.int 49))) (tOp (wAdd Wp.K) (tVar 7) (tC (.int 1)))) (tOp uMul (tVar 7) (tVar 7))) (gName 8))
    (tSeq (tAsg (tOp (wAdd Wp.K) (tVar 6) (tOp (xIx Wp) (tVar 2) (tOp uMod (tOp (wAdd Wp.K) (tVar 8) (tOp uMul (tVar 1) (tCB uInt (tCons (tOp (uEq Wp.K) (tVar 7) (tVar 5)) (tNil))))) (tC (.int 26))))) (gName 6))
    (tNext))))
    (tSeq (tIfS (tTest (tOp (uEq Wp.K) (tOp uMod (tVar 1) (tC (.int 4))) (tC (.int 3)))) (tSeq (tRet (tSl (wSl Wp.K) (tVar 6) (tNoPart) (tPart (tOp (wAdd Wp.K) (tC (.int 2)) (tOp uMod (tOp uDiv (tVar 3) (tC (.int 343))) (tOp uSub (tVar 4) (tC (.int 2))))))))
    (tNext)) (tNext))
    (tSeq (tRet (tVar 6))
    (tNext))))))))
theorem r__law_word : ∀ (c : Cn) (W : WX), RS c W (t__law_word c.W W) (b__law_word) := fun c W =>
    (rs_seq (rs_set rp_str)
      (rs_seq (rs_setZ (rp_call (rav_cons rv_var (rav_cons (RP.v rp_int) rav_nil))))
      (rs_seq (rs_set (rp_op og_add (RP.v rp_int) (RP.v (rp_op og_mod rv_var (RP.v rp_int)))))
      (rs_seq (rs_set (rp_op og_mod (RP.v (rp_op og_div rv_var (RP.v rp_int))) rv_var))
      (rs_seq (rs_set rp_str)
      (rs_seq (rs_pre (rs_for (ri_rng1 rv_var) rg_name (rs_wipe (rs_seq (rs_set (rp_op og_add (RP.v (rp_op og_div (RP.v (rp_op og_div rv_var (RP.v rp_int))) (RP.v (rp_op og_add rv_var (RP.v rp_int))))) (RP.v (rp_op og_mul rv_var rv_var))))
      (rs_seq (rs_set (rp_op og_add rv_var (rv_op ow_ix2 rv_var (RP.v (rp_op og_mod (RP.v (rp_op og_add rv_var (RP.v (rp_op og_mul rv_var (RP.v (rp_cb cg_int (rav_cons (RP.v (rp_op og_eq rv_var rv_var)) rav_nil))))))) (RP.v rp_int))))))
      rs_next)))))
      (rs_seq (rs_if (rt_test (RP.v (rp_op og_eq (RP.v (rp_op og_mod rv_var (RP.v rp_int))) (RP.v rp_int)))) (rs_seq (rs_ret (rp_sl rv_var ro_n (ro_s (RP.v (rp_op og_add (RP.v rp_int) (RP.v (rp_op og_mod (RP.v (rp_op og_div rv_var (RP.v rp_int))) (RP.v (rp_op og_sub rv_var (RP.v rp_int))))))))))
      rs_next) rs_next)
      (rs_seq (rs_ret (RV.p rv_var))
      rs_next))))))))
def t__law_odd (Wp : Wp) (W : WX) : TS :=
    tSeq (tAsg (tCallS (spP Wp F__law_word) (WE W) (tCons (tVar 0) (tCons (tC (.int 30)) (tNil)))) (gName 3))
    (tSeq (tAsg (tLst (tCons (tC (.str (S []))) (tCons (tVar 3) (tCons (tOp (wAdd Wp.K) (tVar 3) (tC (.str (S [32, 32, 55])))) (tCons (tOp (wAdd Wp.K) (tVar 3) (tC (.str (S [32, 55, 32])))) (tCons (tOp (wAdd Wp.K) (tOp (wAdd Wp.K) (tC (.str (S [32]))) (tVar 3)) (tC (.str (S [32, 55])))) (tCons (tOp (wAdd Wp.K) (tSl (wSl Wp.K) (tVar 3) (tNoPart) (tPart (tC (.int 1)))) (tC (.str (S [32, 55])))) (tCons (tOp (wAdd Wp.K) (tVar 3) (tC (.str (S [32, 48, 55])))) (tCons (tOp (wAdd Wp.K) (tVar 3) (tC (.str (S [32, 45, 55])))) (tNil)))))))))) (gName 4))
    (tSeq (tAsg (tOp (wAdd Wp.K) (tVar 4) (tLst (tCons (tOp (wAdd Wp.K) (tVar 3) (tC (.str (S [32])))) (tCons (tOp (wAdd Wp.K) (tVar 3) (tC (.str (S [32, 55, 32, 55])))) (tCons (tOp (wAdd Wp.K) (tM0 rUpper (tVar 3)) (tC (.str (S [32, 55])))) (tCons (tOp (wAdd Wp.K) (tOp (wAdd Wp.K) (tVar 3) (tC (.str (S [32])))) (tOp uMulS (tC (.str (S [55]))) (tC (.int 61)))) (tCons (tOp (wAdd Wp.K) (tVar 3) (tC (.str (S [32, 43, 55])))) (tCons (tOp (wAdd Wp.K) (tVar 3) (tC (.str (S [32, 55, 97])))) (tNil))))))))) (gName 4))
    (tSeq (tAsg (tOp (wAdd Wp.K) (tVar 4) (tLst (tCons (tOp (wAdd Wp.K) (tVar 3) (tC (.str (S [97, 98, 99, 100, 101, 102, 103, 104, 32, 55])))) (tCons (tOp (wAdd Wp.K) (tVar 3) (tC (.str (S [95, 55])))) (tCons (tOp (xIx Wp) (tVar 2) (tOp uMod (tOp uDiv (tVar 1) (tC (.int 17))) (tCB (uLen Wp.K) (tCons (tVar 2) (tNil))))) (tCons (tOp (wAdd Wp.K) (tVar 3) (tC (.str (S [32, 48])))) (tNil))))))) (gName 4))
    (tSeq (tDrop (tBM Wp.K "list" rAppend (tVar 4) (tCons (tOp (wAdd Wp.K) (tOp (wAdd Wp.K) (tVar 3) (tC (.str (S [32])))) (tOp uMulS (tC (.str (S [57]))) (tC (.int 60)))) tNil)))
    (tSeq (tRet (tOp (xIx Wp) (tVar 4) (tOp uMod (tVar 1) (tC (.int 19)))))
    (tNext))))))
theorem r__law_odd : ∀ (c : Cn) (W : WX), RS c W (t__law_odd c.W W) (b__law_odd) := fun c W =>
    (rs_seq (rs_setZ (rp_call (rav_cons rv_var (rav_cons (RP.v rp_int) rav_nil))))
      (rs_seq (rs_set (rp_lst (rap_cons rp_str (rap_cons (RV.p rv_var) (rap_cons (rp_op og_add rv_var (RP.v rp_str)) (rap_cons (rp_op og_add rv_var (RP.v rp_str)) (rap_cons (rp_op og_add (RP.v (rp_op og_add (RP.v rp_str) rv_var)) (RP.v rp_str)) (rap_cons (rp_op og_add (RP.v (rp_sl rv_var ro_n (ro_s (RP.v rp_int)))) (RP.v rp_str)) (rap_cons (rp_op og_add rv_var (RP.v rp_str)) (rap_cons (rp_op og_add rv_var (RP.v rp_str)) rap_nil))))))))))
      (rs_seq (rs_set (rp_op og_add rv_var (RP.v (rp_lst (rap_cons (rp_op og_add rv_var (RP.v rp_str)) (rap_cons (rp_op og_add rv_var (RP.v rp_str)) (rap_cons (rp_op og_add (RP.v (rp_m0 gText_str mg_upper rv_var)) (RP.v rp_str)) (rap_cons (rp_op og_add (RP.v (rp_op og_add rv_var (RP.v rp_str))) (RP.v (rp_op og_mulS (RP.v rp_str) (RP.v rp_int)))) (rap_cons (rp_op og_add rv_var (RP.v rp_str)) (rap_cons (rp_op og_add rv_var (RP.v rp_str)) rap_nil))))))))))
      (rs_seq (rs_set (rp_op og_add rv_var (RP.v (rp_lst (rap_cons (rp_op og_add rv_var (RP.v rp_str)) (rap_cons (rp_op og_add rv_var (RP.v rp_str)) (rap_cons (RV.p (rv_op ow_ix2 rv_var (RP.v (rp_op og_mod (RP.v (rp_op og_div rv_var (RP.v rp_int))) (RP.v (rp_cb cg_len (rav_cons rv_var rav_nil))))))) (rap_cons (rp_op og_add rv_var (RP.v rp_str)) rap_nil))))))))
      (rs_seq (rs_append (rp_op og_add (RP.v (rp_op og_add rv_var (RP.v rp_str))) (RP.v (rp_op og_mulS (RP.v rp_str) (RP.v rp_int)))))
      (rs_seq (rs_ret (RV.p (rv_op ow_ix2 rv_var (RP.v (rp_op og_mod rv_var (RP.v rp_int))))))
      rs_next))))))
def t__law_random (Wp : Wp) (W : WX) : TS :=
    tSeq (tAsg (tC (.str (S []))) (gName 1))
    (tSeq (tAsg (tOp (wAdd Wp.K) (tOp uMod (tVar 0) (tC (.int 2147483647))) (tC (.int 1))) (gName 2))
    (tSeq (tFor (iRng1 (tCons (tOp (wAdd Wp.K) (tC (.int 2)) (tOp uMod (tVar 0) (tC (.int 8)))) (tNil))) (gName 3) (tSeq (tAsg (tOp uMod (tOp uMul (tVar 2) (tC (.int 48271))) (tC (.int 2147483647))) (gName 2))
    (tSeq (tAsg (tOp (wAdd Wp.K) (tVar 1) (tOp (xIx Wp) (tC (.str (S [97, 98, 99, 100, 101, 102, 103, 104, 105, 106, 107, 108, 109, 110, 111, 112, 113, 114, 115, 116, 117, 118, 119, 120, 121, 122]))) (tOp uMod (tOp uDiv (tVar 2) (tC (.int 7))) (tC (.int 26))))) (gName 1))
    (tNext))))
    (tSeq (tRet (tVar 1))
    (tNext))))
theorem r__law_random : ∀ (c : Cn) (W : WX), RS c W (t__law_random c.W W) (b__law_random) := fun c W =>
    (rs_seq (rs_set rp_str)
      (rs_seq (rs_set (rp_op og_add (RP.v (rp_op og_mod rv_var (RP.v rp_int))) (RP.v rp_int)))
      (rs_seq (rs_pre (rs_for (ri_rng1 (RP.v (rp_op og_add (RP.v rp_int) (RP.v (rp_op og_mod rv_var (RP.v rp_int)))))) rg_name (rs_wipe (rs_seq (rs_set (rp_op og_mod (RP.v (rp_op og_mul rv_var (RP.v rp_int))) (RP.v rp_int)))
      (rs_seq (rs_set (rp_op og_add rv_var (rv_op ow_ix2 (RP.v rp_str) (RP.v (rp_op og_mod (RP.v (rp_op og_div rv_var (RP.v rp_int))) (RP.v rp_int))))))
      rs_next)))))
      (rs_seq (rs_ret (RV.p rv_var))
      rs_next))))
def t__law_line (Wp : Wp) (W : WX) : TS :=
    tSeq (tAsg (tCallS (spP Wp F__law_random) (WE W) (tCons (tVar 1) (tNil))) (gName 2))
    (tSeq (tIfS (tTest (tOp (uEq Wp.K) (tOp uMod (tVar 1) (tC (.int 16))) (tC (.int 3)))) (tSeq (tAsg (tCallS (spP Wp F__law_word) (WE W) (tCons (tVar 0) (tCons (tOp uMod (tOp uDiv (tVar 1) (tC (.int 16))) (tC (.int 24))) (tNil)))) (gName 2))
    (tNext)) (tNext))
    (tSeq (tAsg (tCB uStr (tCons (tOp uMod (tOp uDiv (tVar 1) (tC (.int 24))) (tOp (xIx Wp) (tLst (tCons (tC (.int 10)) (tCons (tC (.int 1000)) (tCons (tOp uPow (tC (.int 10)) (tC (.int 60))) (tNil))))) (tOp uMod (tOp uDiv (tVar 1) (tC (.int 24))) (tC (.int 3))))) (tNil))) (gName 3))
    (tSeq (tRet (tOp (wAdd Wp.K) (tOp (wAdd Wp.K) (tVar 2) (tC (.str (S [32])))) (tVar 3)))
    (tNext))))
theorem r__law_line : ∀ (c : Cn) (W : WX), RS c W (t__law_line c.W W) (b__law_line) := fun c W =>
    (rs_seq (rs_setZ (rp_call (rav_cons rv_var rav_nil)))
      (rs_seq (rs_if (rt_test (RP.v (rp_op og_eq (RP.v (rp_op og_mod rv_var (RP.v rp_int))) (RP.v rp_int)))) (rs_seq (rs_setZ (rp_call (rav_cons rv_var (rav_cons (RP.v (rp_op og_mod (RP.v (rp_op og_div rv_var (RP.v rp_int))) (RP.v rp_int))) rav_nil))))
      rs_next) rs_next)
      (rs_seq (rs_setZ (rp_cb cg_str (rav_cons (RP.v (rp_op og_mod (RP.v (rp_op og_div rv_var (RP.v rp_int))) (rv_op ow_ix2 (RP.v (rp_lst (rap_cons rp_int (rap_cons rp_int (rap_cons (rp_op og_pow (RP.v rp_int) (RP.v rp_int)) rap_nil))))) (RP.v (rp_op og_mod (RP.v (rp_op og_div rv_var (RP.v rp_int))) (RP.v rp_int)))))) rav_nil)))
      (rs_seq (rs_ret (rp_op og_add (RP.v (rp_op og_add rv_var (RP.v rp_str))) rv_var))
      rs_next))))
def t__law_lines (Wp : Wp) (W : WX) : TS :=
    tSeq (tAsg (tLc (iSq Wp.K (tSl (wSl Wp.K) (tVar 0) (tPart (tC (.int 1))) (tPart (tC (.int 41))))) (gName 2) (tYes) (tCallS (spP Wp F__law_line) (WE W0) (tCons (tVar 0) (tCons (tVar 2) (tNil)))) [2]) (gName 1))
    (tSeq (tAsg (tOp uDiv (tCallS (spP Wp F__law_cell_at) (WE W) (tCons (tVar 0) (tCons (tC (.int 0)) (tNil)))) (tC (.int 2401))) (gName 2))
    (tSeq (tIfS (tAnd (tTest (tOp (uNe Wp.K) (tVar 1) (tLst (tNil)))) (tTest (tOp (uEq Wp.K) (tOp uMod (tVar 2) (tC (.int 2))) (tC (.int 1))))) (tSeq (tAsg (tOp uMod (tOp uDiv (tVar 2) (tC (.int 2))) (tOp (wAdd Wp.K) (tCB (uLen Wp.K) (tCons (tVar 1) (tNil))) (tC (.int 1)))) (gName 3))
    (tSeq (tAsg (tOp (wAdd Wp.K) (tOp (wAdd Wp.K) (tSl (wSl Wp.K) (tVar 1) (tNoPart) (tPart (tVar 3))) (tLst (tCons (tCallS (spP Wp F__law_odd) (WE W) (tCons (tVar 0) (tCons (tOp uDiv (tVar 2) (tC (.int 82))) (tCons (tVar 1) (tNil))))) (tNil)))) (tSl (wSl Wp.K) (tVar 1) (tPart (tVar 3)) (tNoPart))) (gName 1))
    (tNext))) (tNext))
    (tSeq (tRet (tVar 1))
    (tNext))))
theorem r__law_lines : ∀ (c : Cn) (W : WX), RS c W (t__law_lines c.W W) (b__law_lines) := fun c W =>
    (rs_seq (rs_setZ (rp_lc (ri_sq (RP.k (rp_sl rv_var (ro_s (RP.v rp_int)) (ro_s (RP.v rp_int))))) (rgw_name (by decide)) rt_yes (rp_call (rav_cons rv_var (rav_cons rv_var rav_nil)))))
      (rs_seq (rs_set (rp_op og_div (RP.v (rp_call (rav_cons rv_var (rav_cons (RP.v rp_int) rav_nil)))) (RP.v rp_int)))
      (rs_seq (rs_if (rt_and (rt_test (RP.v (rp_op og_ne rv_var (RP.v (rp_lst rap_nil))))) (rt_test (RP.v (rp_op og_eq (RP.v (rp_op og_mod rv_var (RP.v rp_int))) (RP.v rp_int))))) (rs_seq (rs_set (rp_op og_mod (RP.v (rp_op og_div rv_var (RP.v rp_int))) (RP.v (rp_op og_add (RP.v (rp_cb cg_len (rav_cons rv_var rav_nil))) (RP.v rp_int)))))
      (rs_seq (rs_setZ (rp_op og_add (RP.v (rp_op og_add (RP.v (rp_sl rv_var ro_n (ro_s rv_var))) (RP.v (rp_lst (rap_cons (rp_call (rav_cons rv_var (rav_cons (RP.v (rp_op og_div rv_var (RP.v rp_int))) (rav_cons rv_var rav_nil)))) rap_nil))))) (RP.v (rp_sl rv_var (ro_s rv_var) ro_n))))
      rs_next)) rs_next)
      (rs_seq (rs_ret (RV.p rv_var))
      rs_next))))
def t_law (Wp : Wp) (W : WX) : TS :=
    tSeq (tAsg (tCallS (spP Wp F__law_lines) (WE W) (tCons (tVar 0) (tNil))) (gName 1))
    (tSeq (tAsg (tCallS (spP Wp F__law_due) (WE W) (tCons (tVar 1) (tNil))) (gTup Wp.K 2 (gCons (gName 2) (gCons (gName 3) (gNil)))))
    (tSeq (tIfS (tTest (tOp (uEq Wp.K) (tVar 1) (tLst (tNil)))) (tSeq (tAsg (tUn (rU fun i => .int (-i)) (tC (.int 1))) (gName 2))
    (tNext)) (tNext))
    (tSeq (tAsg (tCallS (spP Wp F__law_at) (WE W) (tCons (tM1 (uJoin Wp.K) (tC (.str (S [10]))) (tVar 1)) (tNil))) (gTup Wp.K 2 (gCons (gName 4) (gCons (gName 5) (gNil)))))
    (tSeq (tIfS (tOr (tB (tCB (uIsi Wp.K) (tCons (tVar 4) (tCons (tC (.ty "bool")) tNil)))) (tTest (tOp (uNe Wp.K) (tVar 4) (tVar 2)))) (tSeq (tRet (tC (.bl false)))
    (tNext)) (tNext))
    (tSeq (tIfS (tTest (tOp uGe (tVar 2) (tC (.int 0)))) (tSeq (tRet (tOp (uEq Wp.K) (tOp (xIx Wp) (tCallS (spP Wp F__law_at) (WE W) (tCons (tOp (xIx Wp) (tLst (tCons (tC .non) (tCons (tC (.int 7)) (tCons (tVar 1) (tCons (tTup (tCons (tC (.str (S [97, 98, 32, 55]))) (tNil))) (tNil)))))) (tOp uMod (tCallS (spP Wp F__law_cell_at) (WE W) (tCons (tVar 0) (tCons (tC (.int 1)) (tNil)))) (tC (.int 4)))) (tNil))) (tC (.int 0))) (tC (.int 0))))
    (tNext)) (tNext))
    (tSeq (tLock (tFor (iKeys (tVar 3)) (gName 6) (tSeq (tAsg (tMethN Wp "Book" "worth" (spP Wp F_Book_worth) [] (WE W) (tVar 5) (tCons (tVar 6) (tNil))) (gName 7))
    (tSeq (tIfS (tOr (tNot (tB (tCB (uIsi Wp.K) (tCons (tVar 7) (tCons (tC (.ty "int")) tNil))))) (tTest (tOp (uNe Wp.K) (tVar 7) (tOp (xIx Wp) (tVar 3) (tVar 6))))) (tSeq (tRet (tC (.bl false)))
    (tNext)) (tNext))
    (tNext)))))
    (tSeq (tRet (tOp (uEq Wp.K) (tMethN Wp "Book" "words" (spP Wp F_Book_words) [] (WE W) (tVar 5) (tNil)) (tCB (uSortS Wp.K) (tCons (tVar 3) (tNil)))))
    (tNext))))))))
theorem r_law : ∀ (c : Cn) (W : WX), RS c W (t_law c.W W) (b_law) := fun c W =>
    (rs_seq (rs_setZ (rp_call (rav_cons rv_var rav_nil)))
      (rs_seq (rs_asg (rp_call (rav_cons rv_var rav_nil)) (rg_tup (rgs_cons rg_name (rgs_cons rg_name rgs_nil))))
      (rs_seq (rs_if (rt_test (RP.v (rp_op og_eq rv_var (RP.v (rp_lst rap_nil))))) (rs_seq (rs_set (rp_neg (RP.v rp_int)))
      rs_next) rs_next)
      (rs_seq (rs_asg (rp_call (rav_cons (RP.v (rp_m1 og_join (RP.v rp_str) rv_var)) rav_nil)) (rg_tup (rgs_cons rg_name (rgs_cons rg_name rgs_nil))))
      (rs_seq (rs_if (rt_or (rt_b (RP.v (rp_isi rv_var))) (rt_test (RP.v (rp_op og_ne rv_var rv_var)))) (rs_seq (rs_ret rp_bl)
      rs_next) rs_next)
      (rs_seq (rs_if (rt_test (RP.v (rp_op og_ge rv_var (RP.v rp_int)))) (rs_seq (rs_ret (rp_op og_eq (rv_op ow_ix2 (RP.v (rp_call (rav_cons (rv_op ow_ix2 (RP.v (rp_lst (rap_cons rp_non (rap_cons rp_int (rap_cons (RV.p rv_var) (rap_cons (rp_tup (rap_cons rp_str rap_nil)) rap_nil)))))) (RP.v (rp_op og_mod (RP.v (rp_call (rav_cons rv_var (rav_cons (RP.v rp_int) rav_nil)))) (RP.v rp_int)))) rav_nil))) (RP.v rp_int)) (RP.v rp_int)))
      rs_next) rs_next)
      (rs_seq (rs_pre (rs_forD (fun _ _ _ _ => rg_name) (fun _ _ _ _ ks ds hp => (rs_wipe (rs_seq (rs_setZ (rp_meth (fun _ _ => .nil) rv_var (rav_cons rv_var rav_nil)))
      (rs_seq (rs_if (rt_or (rt_not (rt_b (RP.v (rp_isi rv_var)))) (rt_test (RP.v (rp_op og_ne rv_var (RP.v (rp_pinIx hp rv_var)))))) (rs_seq (rs_ret rp_bl)
      rs_next) rs_next)
      rs_next))))))
      (rs_seq (rs_ret (rp_op og_eq (RP.v (rp_meth (fun _ _ => .nil) rv_var rav_nil)) (RP.v (rp_cb cg_sortS (rav_cons rv_var rav_nil)))))
      rs_next))))))))
end CV
namespace P_k19
open PySem L2 PyProof.Rows CV
def top (i : Nat) : Stmt := PySem.Challenge.pw_crosswright_k19_a_book_read.main.body.getD i (.Pass ⟨0, 0, 0, 0⟩)
abbrev s_i_Twice : Stmt := inClass (top 6) 0
theorem sc_i_Twice : FnScope ["self", "word"] ["self", "word"] (defScope s_i_Twice) := ⟨rfl, rfl, rfl, by decide +kernel, rfl, by decide +kernel, by decide +kernel⟩
abbrev s_i_NotThere : Stmt := inClass (top 7) 0
theorem sc_i_NotThere : FnScope ["self", "word"] ["self", "word"] (defScope s_i_NotThere) := ⟨rfl, rfl, rfl, by decide +kernel, rfl, by decide +kernel, by decide +kernel⟩
abbrev s_i_NoWord : Stmt := inClass (top 5) 0
theorem sc_i_NoWord : FnScope ["self", "word"] ["self", "word"] (defScope s_i_NoWord) := ⟨rfl, rfl, rfl, by decide +kernel, rfl, by decide +kernel, by decide +kernel⟩
abbrev s_i_NoLine : Stmt := inClass (top 8) 0
theorem sc_i_NoLine : FnScope ["self", "line"] ["self", "line"] (defScope s_i_NoLine) := ⟨rfl, rfl, rfl, by decide +kernel, rfl, by decide +kernel, by decide +kernel⟩
abbrev s_Book_words : Stmt := inClass (top 21) 5
abbrev NN_Book_words : List Str := ["self"]
theorem sc_Book_words : FnScope NN_Book_words ["self"] (defScope s_Book_words) := ⟨rfl, rfl, rfl, by decide +kernel, rfl, by decide +kernel, by decide +kernel⟩
abbrev s_is_word : Stmt := top 19
abbrev NN_is_word : List Str := ["thing", "sign"]
theorem sc_is_word : FnScope NN_is_word ["thing"] (defScope s_is_word) := ⟨rfl, rfl, rfl, by decide +kernel, rfl, by decide +kernel, by decide +kernel⟩
abbrev s_Book_need : Stmt := inClass (top 21) 3
abbrev NN_Book_need : List Str := ["self", "word"]
theorem sc_Book_need : FnScope NN_Book_need ["self", "word"] (defScope s_Book_need) := ⟨rfl, rfl, rfl, by decide +kernel, rfl, by decide +kernel, by decide +kernel⟩
abbrev s_Book_worth : Stmt := inClass (top 21) 7
abbrev NN_Book_worth : List Str := ["self", "word"]
theorem sc_Book_worth : FnScope NN_Book_worth ["self", "word"] (defScope s_Book_worth) := ⟨rfl, rfl, rfl, by decide +kernel, rfl, by decide +kernel, by decide +kernel⟩
abbrev s__law_kinds : Stmt := top 26
abbrev NN__law_kinds : List Str := ["_law_e", "_law_some", "_law_k"]
theorem sc__law_kinds : FnScope NN__law_kinds ["_law_e"] (defScope s__law_kinds) := ⟨rfl, rfl, rfl, by decide +kernel, rfl, by decide +kernel, by decide +kernel⟩
abbrev s_Book_turn_bits : Stmt := inClass (top 21) 1
abbrev NN_Book_turn_bits : List Str := ["self", "word", "at", "bit", "place", "letter", "spot"]
theorem sc_Book_turn_bits : FnScope NN_Book_turn_bits ["self", "word", "at"] (defScope s_Book_turn_bits) := ⟨rfl, rfl, rfl, by decide +kernel, rfl, by decide +kernel, by decide +kernel⟩
abbrev s_Book_put : Stmt := inClass (top 21) 2
abbrev NN_Book_put : List Str := ["self", "word", "worth"]
theorem sc_Book_put : FnScope NN_Book_put ["self", "word", "worth"] (defScope s_Book_put) := ⟨rfl, rfl, rfl, by decide +kernel, rfl, by decide +kernel, by decide +kernel⟩
abbrev s_is_worth : Stmt := top 20
abbrev NN_is_worth : List Str := ["text", "sign"]
theorem sc_is_worth : FnScope NN_is_worth ["text"] (defScope s_is_worth) := ⟨rfl, rfl, rfl, by decide +kernel, rfl, by decide +kernel, by decide +kernel⟩
abbrev s_Book_has : Stmt := inClass (top 21) 6
abbrev NN_Book_has : List Str := ["self", "word"]
theorem sc_Book_has : FnScope NN_Book_has ["self", "word"] (defScope s_Book_has) := ⟨rfl, rfl, rfl, by decide +kernel, rfl, by decide +kernel, by decide +kernel⟩
abbrev s_Book___init__ : Stmt := inClass (top 21) 0
abbrev NN_Book___init__ : List Str := ["self"]
theorem sc_Book___init__ : FnScope NN_Book___init__ ["self"] (defScope s_Book___init__) := ⟨rfl, rfl, rfl, by decide +kernel, rfl, by decide +kernel, by decide +kernel⟩
abbrev s_read_book : Stmt := top 22
abbrev NN_read_book : List Str := ["text", "book", "number", "line", "word", "blank", "worth"]
theorem sc_read_book : FnScope NN_read_book ["text"] (defScope s_read_book) := ⟨rfl, rfl, rfl, by decide +kernel, rfl, by decide +kernel, by decide +kernel⟩
abbrev s__law_at : Stmt := top 33
abbrev NN__law_at : List Str := ["_law_text", "_law_kept", "_law_book", "_law_e"]
theorem sc__law_at : FnScope NN__law_at ["_law_text"] (defScope s__law_at) := ⟨rfl, rfl, rfl, by decide +kernel, rfl, by decide +kernel, by decide +kernel⟩
abbrev s__law_cell_at : Stmt := top 24
abbrev NN__law_cell_at : List Str := ["_law_script", "_law_k"]
theorem sc__law_cell_at : FnScope NN__law_cell_at ["_law_script", "_law_k"] (defScope s__law_cell_at) := ⟨rfl, rfl, rfl, by decide +kernel, rfl, by decide +kernel, by decide +kernel⟩
abbrev s__law_is_line : Stmt := top 31
abbrev NN__law_is_line : List Str := ["_law_line_here", "_law_word_here", "_law_blank", "_law_worth", "_law_sign"]
theorem sc__law_is_line : FnScope NN__law_is_line ["_law_line_here"] (defScope s__law_is_line) := ⟨rfl, rfl, rfl, by decide +kernel, rfl, by decide +kernel, by decide +kernel⟩
abbrev s__law_due : Stmt := top 32
abbrev NN__law_due : List Str := ["_law_lines_here", "_law_held", "_law_k", "_law_word_here", "_law_blank", "_law_worth"]
theorem sc__law_due : FnScope NN__law_due ["_law_lines_here"] (defScope s__law_due) := ⟨rfl, rfl, rfl, by decide +kernel, rfl, by decide +kernel, by decide +kernel⟩
abbrev s__law_word : Stmt := top 25
abbrev NN__law_word : List Str := ["_law_script", "_law_k", "_law_letters", "_law_cell", "_law_size", "_law_at_here", "_law_word_here", "_law_j", "_law_number"]
theorem sc__law_word : FnScope NN__law_word ["_law_script", "_law_k"] (defScope s__law_word) := ⟨rfl, rfl, rfl, by decide +kernel, rfl, by decide +kernel, by decide +kernel⟩
abbrev s__law_odd : Stmt := top 29
abbrev NN__law_odd : List Str := ["_law_script", "_law_cell", "_law_lines_here", "_law_word_here", "_law_some"]
theorem sc__law_odd : FnScope NN__law_odd ["_law_script", "_law_cell", "_law_lines_here"] (defScope s__law_odd) := ⟨rfl, rfl, rfl, by decide +kernel, rfl, by decide +kernel, by decide +kernel⟩
abbrev s__law_random : Stmt := top 27
abbrev NN__law_random : List Str := ["_law_cell", "_law_word_here", "_law_number", "_law_k"]
theorem sc__law_random : FnScope NN__law_random ["_law_cell"] (defScope s__law_random) := ⟨rfl, rfl, rfl, by decide +kernel, rfl, by decide +kernel, by decide +kernel⟩
abbrev s__law_line : Stmt := top 28
abbrev NN__law_line : List Str := ["_law_script", "_law_cell", "_law_word_here", "_law_worth"]
theorem sc__law_line : FnScope NN__law_line ["_law_script", "_law_cell"] (defScope s__law_line) := ⟨rfl, rfl, rfl, by decide +kernel, rfl, by decide +kernel, by decide +kernel⟩
abbrev s__law_lines : Stmt := top 30
abbrev NN__law_lines : List Str := ["_law_script", "_law_lines_here", "_law_cell", "_law_at_here"]
theorem sc__law_lines : FnScope NN__law_lines ["_law_script"] (defScope s__law_lines) := ⟨rfl, rfl, rfl, by decide +kernel, rfl, by decide +kernel, by decide +kernel⟩
abbrev s_law : Stmt := top 34
abbrev NN_law : List Str := ["_law_script", "_law_lines_here", "_law_at_here", "_law_held", "_law_found", "_law_book", "_law_word_here", "_law_worth"]
theorem sc_law : FnScope NN_law ["_law_script"] (defScope s_law) := ⟨rfl, rfl, rfl, by decide +kernel, rfl, by decide +kernel, by decide +kernel⟩
structure Facts (K : Fg) (mg : Str → Option Value) : Prop where
  d_Book_words : MethAt K mg "Book" "words" "Book.words" s_Book_words []
  d_is_word : FunAt K mg "is_word" s_is_word
  d_Book_need : MethAt K mg "Book" "need" "Book.need" s_Book_need []
  d_Book_worth : MethAt K mg "Book" "worth" "Book.worth" s_Book_worth []
  d__law_kinds : FunAt K mg "_law_kinds" s__law_kinds
  d_Book_turn_bits : MethAt K mg "Book" "turn_bits" "Book.turn_bits" s_Book_turn_bits []
  d_Book_put : MethAt K mg "Book" "put" "Book.put" s_Book_put [.int 0]
  d_is_worth : FunAt K mg "is_worth" s_is_worth
  d_Book_has : MethAt K mg "Book" "has" "Book.has" s_Book_has []
  d_Book___init__ : InitAt K mg "Book" "Book.__init__" s_Book___init__ []
  d_read_book : FunAt K mg "read_book" s_read_book
  d__law_at : FunAt K mg "_law_at" s__law_at
  d__law_cell_at : FunAt K mg "_law_cell_at" s__law_cell_at
  d__law_is_line : FunAt K mg "_law_is_line" s__law_is_line
  d__law_due : FunAt K mg "_law_due" s__law_due
  d__law_word : FunAt K mg "_law_word" s__law_word
  d__law_odd : FunAt K mg "_law_odd" s__law_odd
  d__law_random : FunAt K mg "_law_random" s__law_random
  d__law_line : FunAt K mg "_law_line" s__law_line
  d__law_lines : FunAt K mg "_law_lines" s__law_lines
  d_law : FunAt K mg "law" s_law
  fd_Book_worths : FldT ⟨K, clOf mg, w⟩ "Book" "worths"
  fd_Book_row : FldT ⟨K, clOf mg, w⟩ "Book" "row"
  fd_Book_bits : FldT ⟨K, clOf mg, w⟩ "Book" "bits"
  x_NoLine : XFacts K mg "NoLine" "line" "NoLine.__init__" s_i_NoLine
  x_NoWord : XFacts K mg "NoWord" "word" "NoWord.__init__" s_i_NoWord
  x_NotThere : XFacts K mg "NotThere" "word" "NotThere.__init__" s_i_NotThere
  x_Twice : XFacts K mg "Twice" "word" "Twice.__init__" s_i_Twice
  ex_0 : ∃ C, mg "CrossError" = some (.ref C) ∧ ExTbl K mg [("NoLine", true), ("NoWord", true), ("NotThere", true), ("Twice", true)] (.ref C)
  is_0 : IsTbl K ⟨K, clOf mg, w⟩ [("NoLine", true), ("NoWord", true), ("NotThere", true), ("Twice", true)] [.type "ValueError"]
  is_1 : ∃ C0, mg "NoDeed" = some (.ref C0) ∧ IsTbl K ⟨K, clOf mg, w⟩ [("NoLine", false), ("NoWord", false), ("NotThere", false), ("Twice", false)] [.ref C0]
  is_2 : ∃ C0, mg "NoName" = some (.ref C0) ∧ IsTbl K ⟨K, clOf mg, w⟩ [("NoLine", false), ("NoWord", false), ("NotThere", false), ("Twice", false)] [.ref C0]
  is_3 : ∃ C0, mg "NoStep" = some (.ref C0) ∧ IsTbl K ⟨K, clOf mg, w⟩ [("NoLine", false), ("NoWord", false), ("NotThere", false), ("Twice", false)] [.ref C0]
  is_4 : ∃ C0, mg "NoWorking" = some (.ref C0) ∧ IsTbl K ⟨K, clOf mg, w⟩ [("NoLine", false), ("NoWord", false), ("NotThere", false), ("Twice", false)] [.ref C0]
  is_5 : ∃ C0, mg "NoMatch" = some (.ref C0) ∧ IsTbl K ⟨K, clOf mg, w⟩ [("NoLine", false), ("NoWord", false), ("NotThere", false), ("Twice", false)] [.ref C0]
  is_6 : ∃ C0, mg "NotFilled" = some (.ref C0) ∧ IsTbl K ⟨K, clOf mg, w⟩ [("NoLine", false), ("NoWord", false), ("NotThere", false), ("Twice", false)] [.ref C0]
  is_7 : ∃ C0, mg "NoLine" = some (.ref C0) ∧ IsTbl K ⟨K, clOf mg, w⟩ [("NoLine", true), ("NoWord", false), ("NotThere", false), ("Twice", false)] [.ref C0]
  is_8 : ∃ C0, mg "NotThere" = some (.ref C0) ∧ IsTbl K ⟨K, clOf mg, w⟩ [("NoLine", false), ("NoWord", false), ("NotThere", true), ("Twice", false)] [.ref C0]
  is_9 : ∃ C0, mg "Twice" = some (.ref C0) ∧ IsTbl K ⟨K, clOf mg, w⟩ [("NoLine", false), ("NoWord", false), ("NotThere", false), ("Twice", true)] [.ref C0]
  is_10 : ∃ C0, mg "NoWord" = some (.ref C0) ∧ IsTbl K ⟨K, clOf mg, w⟩ [("NoLine", false), ("NoWord", true), ("NotThere", false), ("Twice", false)] [.ref C0]
  is_11 : ∃ C0, mg "NoFloor" = some (.ref C0) ∧ IsTbl K ⟨K, clOf mg, w⟩ [("NoLine", false), ("NoWord", false), ("NotThere", false), ("Twice", false)] [.ref C0]
  is_12 : ∃ C0, mg "NoSheet" = some (.ref C0) ∧ IsTbl K ⟨K, clOf mg, w⟩ [("NoLine", false), ("NoWord", false), ("NotThere", false), ("Twice", false)] [.ref C0]
  fl_0 : ∀ C, clOf mg "NoLine" = some C → XfC K C ∧ PySem.W.findIn K (.ref C) "line" = some none
  n_ValueError : mg "ValueError" = none
  n_all : mg "all" = none
  n_bool : mg "bool" = none
  n_enumerate : mg "enumerate" = none
  n_int : mg "int" = none
  n_isinstance : mg "isinstance" = none
  n_len : mg "len" = none
  n_range : mg "range" = none
  n_sorted : mg "sorted" = none
  n_str : mg "str" = none
  c_FIGURES : ∃ u, mg "FIGURES" = some u ∧ RelV (.str (S [48, 49, 50, 51, 52, 53, 54, 55, 56, 57])) u
  c_LETTERS : ∃ u, mg "LETTERS" = some u ∧ RelV (.str (S [97, 98, 99, 100, 101, 102, 103, 104, 105, 106, 107, 108, 109, 110, 111, 112, 113, 114, 115, 116, 117, 118, 119, 120, 121, 122])) u
  c_LONGEST : ∃ u, mg "LONGEST" = some u ∧ RelV (.int 9) u
section
variable {P : Program} {w : World} {K : Fg} {mg : Str → Option Value} {base : Heap}
theorem xi_NoLine (T : Facts K mg) : XInit P w K mg base (clOf mg) "NoLine" "line" 1 := xinit_of T.x_NoLine sc_i_NoLine (fun _ _ _ _ _ _ us hl => match us, hl with | [_, _], _ => rfl) (fun cdv A outer s H E fI => pss_cons (ps_ost (pv 0) (pv 1)) pss_nil)
theorem xi_NoWord (T : Facts K mg) : XInit P w K mg base (clOf mg) "NoWord" "word" 1 := xinit_of T.x_NoWord sc_i_NoWord (fun _ _ _ _ _ _ us hl => match us, hl with | [_, _], _ => rfl) (fun cdv A outer s H E fI => pss_cons (ps_ost (pv 0) (pv 1)) pss_nil)
theorem xi_NotThere (T : Facts K mg) : XInit P w K mg base (clOf mg) "NotThere" "word" 1 := xinit_of T.x_NotThere sc_i_NotThere (fun _ _ _ _ _ _ us hl => match us, hl with | [_, _], _ => rfl) (fun cdv A outer s H E fI => pss_cons (ps_ost (pv 0) (pv 1)) pss_nil)
theorem xi_Twice (T : Facts K mg) : XInit P w K mg base (clOf mg) "Twice" "word" 1 := xinit_of T.x_Twice sc_i_Twice (fun _ _ _ _ _ _ us hl => match us, hl with | [_, _], _ => rfl) (fun cdv A outer s H E fI => pss_cons (ps_ost (pv 0) (pv 1)) pss_nil)
theorem ok_Book_words (T : Facts K mg)   : MethR P w K mg base "Book" "words" "Book.words" s_Book_words [] ["self"] 1 (spP ⟨K, clOf mg, w⟩ F_Book_words) :=
  methP T.d_Book_words sc_Book_words (by decide) (t_Book_words ⟨K, clOf mg, w⟩)
    (fun cdv A outer s H E f hr => by
      have tk : Takes (cxOf (L2.CX P w) P w K mg base NN_Book_words "Book.words" (defScope s_Book_words) f cdv A outer s H E) (WD E) := takes_of rfl rfl rfl rfl
      have po : PassesOwn (model P w) (cxOf (L2.CX P w) P w K mg base NN_Book_words "Book.words" (defScope s_Book_words) f cdv A outer s H E).A (cxOf (L2.CX P w) P w K mg base NN_Book_words "Book.words" (defScope s_Book_words) f cdv A outer s H E).env (cxOf (L2.CX P w) P w K mg base NN_Book_words "Book.words" (defScope s_Book_words) f cdv A outer s H E).xe := passes_of rfl
      exact (pss_cons (ps_ret (pe_callB (call_sortS rfl) (by rfl) T.n_sorted (by decide +kernel) (pa_cons (pe_fldN (cl := clOf mg) T.fd_Book_worths (pv 0)) pa_nil)))
      pss_nil))
    (fun c W h => by
      have := r_Book_words c W
      rw [h] at this
      exact this)
theorem ok_is_word (T : Facts K mg)   : DefOk P w K mg base (L2.CX P w) "is_word" ["thing"] 1 (spP ⟨K, clOf mg, w⟩ F_is_word) :=
  defP T.d_is_word sc_is_word (fun _ _ _ _ _ _ us hl => match us, hl with | [_], _ => rfl) (by decide) (t_is_word ⟨K, clOf mg, w⟩)
    (fun cdv A outer s H E f hr => by
      have tk : Takes (cxOf (L2.CX P w) P w K mg base NN_is_word "is_word" (defScope s_is_word) f cdv A outer s H E) (WD E) := takes_of rfl rfl rfl rfl
      have po : PassesOwn (model P w) (cxOf (L2.CX P w) P w K mg base NN_is_word "is_word" (defScope s_is_word) f cdv A outer s H E).A (cxOf (L2.CX P w) P w K mg base NN_is_word "is_word" (defScope s_is_word) f cdv A outer s H E).env (cxOf (L2.CX P w) P w K mg base NN_is_word "is_word" (defScope s_is_word) f cdv A outer s H E).xe := passes_of rfl
      exact (pss_cons (ps_if (PW.pt (pw_or (pt_not (pt_val (pe_callB call_uIsi (by rfl) T.n_isinstance (by decide +kernel) (pa_cons (pv 0) (pa_cons (pe_bltn (by rfl) T.n_str (by decide +kernel) rfl) pa_nil))))) (pw_or1 (pt_not (pt_chain op_uLe op_uLe pe_int (pe_callB call_uLen (by rfl) T.n_len PySem.boot_len (pa_cons (pv 0) pa_nil)) (pe_globE T.c_LONGEST)))))) (pss_cons (ps_ret pe_bl)
      pss_nil) pss_nil)
      (pss_cons (ps_ret (pe_callB (cr_all rfl) (by rfl) T.n_all (by decide +kernel) (pa_cons (pe_lc (own := [(("sign" : Str), 1)]) (by rfl) sc_is_word.nd (pi_sq (pv 0)) (blkOk_by (own := [(("sign" : Str), 1)]) (N := NN_is_word) (sc := defScope s_is_word) (by decide +kernel)) (fun _ _ _ _ _ => (pg_name (i := 1) sc_is_word.nd rfl (by first | exact Or.inl rfl | exact Or.inr rfl))) (fun _ _ _ _ _ => pts_nil) (fun _ _ _ _ _ => (pe_cmpR (op_xIn (units65 hr)) (pv 1) (pe_globE T.c_LETTERS) (by rfl)))) pa_nil)))
      pss_nil)))
    (fun c W h => by
      have := r_is_word c W
      rw [h] at this
      exact this)
theorem ok_Book_need (T : Facts K mg)  (D_is_word : DefOk P w K mg base (L2.CX P w) "is_word" ["thing"] 1 (spP ⟨K, clOf mg, w⟩ F_is_word)) : MethR P w K mg base "Book" "need" "Book.need" s_Book_need [] ["self", "word"] 3 (spP ⟨K, clOf mg, w⟩ F_Book_need) :=
  methP T.d_Book_need sc_Book_need (by decide) (t_Book_need ⟨K, clOf mg, w⟩)
    (fun cdv A outer s H E f hr => by
      have tk : Takes (cxOf (L2.CX P w) P w K mg base NN_Book_need "Book.need" (defScope s_Book_need) f cdv A outer s H E) (WD E) := takes_of rfl rfl rfl rfl
      have po : PassesOwn (model P w) (cxOf (L2.CX P w) P w K mg base NN_Book_need "Book.need" (defScope s_Book_need) f cdv A outer s H E).A (cxOf (L2.CX P w) P w K mg base NN_Book_need "Book.need" (defScope s_Book_need) f cdv A outer s H E).env (cxOf (L2.CX P w) P w K mg base NN_Book_need "Book.need" (defScope s_Book_need) f cdv A outer s H E).xe := passes_of rfl
      have XI_NotThere := xi_NotThere (P := P) (w := w) (base := base) T
      have XI_NoWord := xi_NoWord (P := P) (w := w) (base := base) T
      exact (pss_cons (ps_if (pt_not (pt_val (pe_callP D_is_word (hr.mono (by decide)) tk (pa_cons (pv 1) pa_nil)))) (pss_cons (ps_raise1 (Wp := ⟨K, clOf mg, w⟩) XI_NoWord (hr.mono (by decide)) rfl tk (pv 1))
      pss_nil) pss_nil)
      (pss_cons (ps_if (pt_cmpR (op_xNotIn (units65 hr)) (pv 1) (pe_fldN (cl := clOf mg) T.fd_Book_worths (pv 0)) (by rfl)) (pss_cons (ps_raise1 (Wp := ⟨K, clOf mg, w⟩) XI_NotThere (hr.mono (by decide)) rfl tk (pv 1))
      pss_nil) pss_nil)
      pss_nil)))
    (fun c W h => by
      have := r_Book_need c W
      rw [h] at this
      exact this)
theorem ok_Book_worth (T : Facts K mg)  (D_Book_need : MethR P w K mg base "Book" "need" "Book.need" s_Book_need [] ["self", "word"] 3 (spP ⟨K, clOf mg, w⟩ F_Book_need)) : MethR P w K mg base "Book" "worth" "Book.worth" s_Book_worth [] ["self", "word"] 4 (spP ⟨K, clOf mg, w⟩ F_Book_worth) :=
  methP T.d_Book_worth sc_Book_worth (by decide) (t_Book_worth ⟨K, clOf mg, w⟩)
    (fun cdv A outer s H E f hr => by
      have tk : Takes (cxOf (L2.CX P w) P w K mg base NN_Book_worth "Book.worth" (defScope s_Book_worth) f cdv A outer s H E) (WD E) := takes_of rfl rfl rfl rfl
      have po : PassesOwn (model P w) (cxOf (L2.CX P w) P w K mg base NN_Book_worth "Book.worth" (defScope s_Book_worth) f cdv A outer s H E).A (cxOf (L2.CX P w) P w K mg base NN_Book_worth "Book.worth" (defScope s_Book_worth) f cdv A outer s H E).env (cxOf (L2.CX P w) P w K mg base NN_Book_worth "Book.worth" (defScope s_Book_worth) f cdv A outer s H E).xe := passes_of rfl
      exact (pss_cons (ps_expr (pe_methN D_Book_need (fun f fd F => ⟨[], .nil, F.bindsN (fun _ _ _ _ _ _ us hl => match us, hl with | [_, _], _ => rfl)⟩) (hr.mono (by decide)) tk (pv 0) (pa_cons (pv 1) pa_nil)))
      (pss_cons (ps_ret (pe_ix (ix_xIx (units9 hr)) (pe_fldN (cl := clOf mg) T.fd_Book_worths (pv 0)) (pv 1) (fun _ _ => rfl)))
      pss_nil)))
    (fun c W h => by
      have := r_Book_worth c W
      rw [h] at this
      exact this)
theorem ok__law_kinds (T : Facts K mg)   : DefOk P w K mg base (L2.CX P w) "_law_kinds" ["_law_e"] 1 (spP ⟨K, clOf mg, w⟩ F__law_kinds) :=
  defP T.d__law_kinds sc__law_kinds (fun _ _ _ _ _ _ us hl => match us, hl with | [_], _ => rfl) (by decide) (t__law_kinds ⟨K, clOf mg, w⟩)
    (fun cdv A outer s H E f hr => by
      have tk : Takes (cxOf (L2.CX P w) P w K mg base NN__law_kinds "_law_kinds" (defScope s__law_kinds) f cdv A outer s H E) (WD E) := takes_of rfl rfl rfl rfl
      have po : PassesOwn (model P w) (cxOf (L2.CX P w) P w K mg base NN__law_kinds "_law_kinds" (defScope s__law_kinds) f cdv A outer s H E).A (cxOf (L2.CX P w) P w K mg base NN__law_kinds "_law_kinds" (defScope s__law_kinds) f cdv A outer s H E).env (cxOf (L2.CX P w) P w K mg base NN__law_kinds "_law_kinds" (defScope s__law_kinds) f cdv A outer s H E).xe := passes_of rfl
      obtain ⟨Cis12_0, gis12_0, his12⟩ := T.is_12
      obtain ⟨Cis11_0, gis11_0, his11⟩ := T.is_11
      obtain ⟨Cis10_0, gis10_0, his10⟩ := T.is_10
      obtain ⟨Cis9_0, gis9_0, his9⟩ := T.is_9
      obtain ⟨Cis8_0, gis8_0, his8⟩ := T.is_8
      obtain ⟨Cis7_0, gis7_0, his7⟩ := T.is_7
      obtain ⟨Cis6_0, gis6_0, his6⟩ := T.is_6
      obtain ⟨Cis5_0, gis5_0, his5⟩ := T.is_5
      obtain ⟨Cis4_0, gis4_0, his4⟩ := T.is_4
      obtain ⟨Cis3_0, gis3_0, his3⟩ := T.is_3
      obtain ⟨Cis2_0, gis2_0, his2⟩ := T.is_2
      obtain ⟨Cis1_0, gis1_0, his1⟩ := T.is_1
      exact (pss_cons (ps_set (i := 1) sc__law_kinds.nd rfl (by first | exact Or.inl rfl | exact Or.inr rfl) (pe_lst (pa_cons (pe_isXK1 (Wp := ⟨K, clOf mg, w⟩) (c := .ref Cis12_0) T.n_isinstance his12 (fun _ h => h) (pv 0) (pe_globE ⟨_, gis12_0, rfl⟩)) (pa_cons (pe_isXK1 (Wp := ⟨K, clOf mg, w⟩) (c := .ref Cis11_0) T.n_isinstance his11 (fun _ h => h) (pv 0) (pe_globE ⟨_, gis11_0, rfl⟩)) (pa_cons (pe_isXK1 (Wp := ⟨K, clOf mg, w⟩) (c := .ref Cis10_0) T.n_isinstance his10 (fun _ h => h) (pv 0) (pe_globE ⟨_, gis10_0, rfl⟩)) (pa_cons (pe_isXK1 (Wp := ⟨K, clOf mg, w⟩) (c := .ref Cis9_0) T.n_isinstance his9 (fun _ h => h) (pv 0) (pe_globE ⟨_, gis9_0, rfl⟩)) pa_nil))))))
      (pss_cons (ps_set (i := 1) sc__law_kinds.nd rfl (by first | exact Or.inl rfl | exact Or.inr rfl) (pe_op op_wAdd (pv 1) (pe_lst (pa_cons (pe_isXK1 (Wp := ⟨K, clOf mg, w⟩) (c := .ref Cis8_0) T.n_isinstance his8 (fun _ h => h) (pv 0) (pe_globE ⟨_, gis8_0, rfl⟩)) (pa_cons (pe_isXK1 (Wp := ⟨K, clOf mg, w⟩) (c := .ref Cis7_0) T.n_isinstance his7 (fun _ h => h) (pv 0) (pe_globE ⟨_, gis7_0, rfl⟩)) (pa_cons (pe_isXK1 (Wp := ⟨K, clOf mg, w⟩) (c := .ref Cis6_0) T.n_isinstance his6 (fun _ h => h) (pv 0) (pe_globE ⟨_, gis6_0, rfl⟩)) (pa_cons (pe_isXK1 (Wp := ⟨K, clOf mg, w⟩) (c := .ref Cis5_0) T.n_isinstance his5 (fun _ h => h) (pv 0) (pe_globE ⟨_, gis5_0, rfl⟩)) pa_nil)))))))
      (pss_cons (ps_set (i := 1) sc__law_kinds.nd rfl (by first | exact Or.inl rfl | exact Or.inr rfl) (pe_op op_wAdd (pv 1) (pe_lst (pa_cons (pe_isXK1 (Wp := ⟨K, clOf mg, w⟩) (c := .ref Cis4_0) T.n_isinstance his4 (fun _ h => h) (pv 0) (pe_globE ⟨_, gis4_0, rfl⟩)) (pa_cons (pe_isXK1 (Wp := ⟨K, clOf mg, w⟩) (c := .ref Cis3_0) T.n_isinstance his3 (fun _ h => h) (pv 0) (pe_globE ⟨_, gis3_0, rfl⟩)) (pa_cons (pe_isXK1 (Wp := ⟨K, clOf mg, w⟩) (c := .ref Cis2_0) T.n_isinstance his2 (fun _ h => h) (pv 0) (pe_globE ⟨_, gis2_0, rfl⟩)) (pa_cons (pe_isXK1 (Wp := ⟨K, clOf mg, w⟩) (c := .ref Cis1_0) T.n_isinstance his1 (fun _ h => h) (pv 0) (pe_globE ⟨_, gis1_0, rfl⟩)) pa_nil)))))))
      (pss_cons (ps_ret (pe_lc (own := [(("_law_k" : Str), 2)]) (by rfl) sc__law_kinds.nd (pi_range1 (by rfl) T.n_range (pa_cons pe_int pa_nil)) (blkOk_by (own := [(("_law_k" : Str), 2)]) (N := NN__law_kinds) (sc := defScope s__law_kinds) (by decide +kernel)) (fun _ _ _ _ _ => (pg_name (i := 2) sc__law_kinds.nd rfl (by first | exact Or.inl rfl | exact Or.inr rfl))) (fun _ _ _ _ _ => (pts_one (pt_val (pe_ix (ix_xIx (units9 hr)) (pv 1) (pv 2) (fun _ _ => rfl))))) (fun _ _ _ _ _ => (pv 2))))
      pss_nil)))))
    (fun c W h => by
      have := r__law_kinds c W
      rw [h] at this
      exact this)
theorem ok_Book_turn_bits (T : Facts K mg)   : MethR P w K mg base "Book" "turn_bits" "Book.turn_bits" s_Book_turn_bits [] ["self", "word", "at"] 1 (spM ⟨K, clOf mg, w⟩ [true, false, false] F_Book_turn_bits) :=
  methM T.d_Book_turn_bits sc_Book_turn_bits rfl (by decide) (t_Book_turn_bits ⟨K, clOf mg, w⟩)
    (fun cdv A outer s H E f hr => by
      have tk : Takes (cxOf (L2.CX P w) P w K mg base NN_Book_turn_bits "Book.turn_bits" (defScope s_Book_turn_bits) f cdv A outer s H E) (WD E) := takes_of rfl rfl rfl rfl
      have po : PassesOwn (model P w) (cxOf (L2.CX P w) P w K mg base NN_Book_turn_bits "Book.turn_bits" (defScope s_Book_turn_bits) f cdv A outer s H E).A (cxOf (L2.CX P w) P w K mg base NN_Book_turn_bits "Book.turn_bits" (defScope s_Book_turn_bits) f cdv A outer s H E).env (cxOf (L2.CX P w) P w K mg base NN_Book_turn_bits "Book.turn_bits" (defScope s_Book_turn_bits) f cdv A outer s H E).xe := passes_of rfl
      exact (pss_cons (ps_set (i := 3) sc_Book_turn_bits.nd rfl (by first | exact Or.inl rfl | exact Or.inr rfl) (pe_op op_uShl pe_int (pv 2)))
      (pss_cons (ps_asg (pe_op op_uXor (pe_mget2 (units9 hr) (pe_fldN (cl := clOf mg) T.fd_Book_bits (pv 0)) (pe_callB call_uLen (by rfl) T.n_len PySem.boot_len (pa_cons (pv 1) pa_nil)) pe_int ⟨by rfl, by rfl, by rfl, by rfl⟩) (pv 3)) (pg_sub (pe_fldN (cl := clOf mg) T.fd_Book_bits (pv 0)) (pe_callB call_uLen (by rfl) T.n_len PySem.boot_len (pa_cons (pv 1) pa_nil)) (set_uSet (units9 hr))))
      (pss_cons (ps_for po rfl (pi_enumU (by rfl) T.n_enumerate (pa_cons (pv 1) pa_nil)) (pg_tup (by rfl) (pgs_cons (pg_name (i := 4) sc_Book_turn_bits.nd rfl (by first | exact Or.inl rfl | exact Or.inr rfl)) (pgs_cons (pg_name (i := 5) sc_Book_turn_bits.nd rfl (by first | exact Or.inl rfl | exact Or.inr rfl)) pgs_nil)))
      (pss_cons (ps_set (i := 6) sc_Book_turn_bits.nd rfl (by first | exact Or.inl rfl | exact Or.inr rfl) (pe_tup (pa_cons (pe_callB call_uLen (by rfl) T.n_len PySem.boot_len (pa_cons (pv 1) pa_nil)) (pa_cons (pv 4) (pa_cons (pv 5) pa_nil)))))
      (pss_cons (ps_asg (pe_op op_uXor (pe_mget2 (units9 hr) (pe_fldN (cl := clOf mg) T.fd_Book_bits (pv 0)) (pv 6) pe_int ⟨by rfl, by rfl, by rfl, by rfl⟩) (pv 3)) (pg_sub (pe_fldN (cl := clOf mg) T.fd_Book_bits (pv 0)) (pv 6) (set_uSet (units9 hr))))
      pss_nil)))
      pss_nil))))
    (fun c W h => by
      have := r_Book_turn_bits c W
      rw [h] at this
      exact this)
theorem ok_Book_put (T : Facts K mg)  (D_Book_turn_bits : MethR P w K mg base "Book" "turn_bits" "Book.turn_bits" s_Book_turn_bits [] ["self", "word", "at"] 1 (spM ⟨K, clOf mg, w⟩ [true, false, false] F_Book_turn_bits)) (D_is_word : DefOk P w K mg base (L2.CX P w) "is_word" ["thing"] 1 (spP ⟨K, clOf mg, w⟩ F_is_word)) : MethR P w K mg base "Book" "put" "Book.put" s_Book_put [.int 0] ["self", "word", "worth"] 3 (spM ⟨K, clOf mg, w⟩ [true, false, false] F_Book_put) :=
  methM T.d_Book_put sc_Book_put rfl (by decide) (t_Book_put ⟨K, clOf mg, w⟩)
    (fun cdv A outer s H E f hr => by
      have tk : Takes (cxOf (L2.CX P w) P w K mg base NN_Book_put "Book.put" (defScope s_Book_put) f cdv A outer s H E) (WD E) := takes_of rfl rfl rfl rfl
      have po : PassesOwn (model P w) (cxOf (L2.CX P w) P w K mg base NN_Book_put "Book.put" (defScope s_Book_put) f cdv A outer s H E).A (cxOf (L2.CX P w) P w K mg base NN_Book_put "Book.put" (defScope s_Book_put) f cdv A outer s H E).env (cxOf (L2.CX P w) P w K mg base NN_Book_put "Book.put" (defScope s_Book_put) f cdv A outer s H E).xe := passes_of rfl
      have XI_Twice := xi_Twice (P := P) (w := w) (base := base) T
      have XI_NoWord := xi_NoWord (P := P) (w := w) (base := base) T
      exact (pss_cons (ps_if (pt_not (pt_val (pe_callP D_is_word (hr.mono (by decide)) tk (pa_cons (pv 1) pa_nil)))) (pss_cons (ps_raise1 (Wp := ⟨K, clOf mg, w⟩) XI_NoWord (hr.mono (by decide)) rfl tk (pv 1))
      pss_nil) pss_nil)
      (pss_cons (ps_if (pt_cmpR (op_xIn (units65 hr)) (pv 1) (pe_fldN (cl := clOf mg) T.fd_Book_worths (pv 0)) (by rfl)) (pss_cons (ps_raise1 (Wp := ⟨K, clOf mg, w⟩) XI_Twice (hr.mono (by decide)) rfl tk (pv 1))
      pss_nil) pss_nil)
      (pss_cons (ps_asg (pv 2) (pg_sub (pe_fldN (cl := clOf mg) T.fd_Book_worths (pv 0)) (pv 1) (set_uSet (units9 hr))))
      (pss_cons (ps_expr (pe_methN D_Book_turn_bits (fun f fd F => ⟨[], .nil, F.bindsN (fun _ _ _ _ _ _ us hl => match us, hl with | [_, _, _], _ => rfl)⟩) (hr.mono (by decide)) tk (pv 0) (pa_cons (pv 1) (pa_cons (pe_callB call_uLen (by rfl) T.n_len PySem.boot_len (pa_cons (pe_fldN (cl := clOf mg) T.fd_Book_row (pv 0)) pa_nil)) pa_nil))))
      (pss_cons (ps_expr (pe_bm PySem.F.plainAttrs_list PySem.F.slot_list_append PySem.F.type_list_append mt_append (pe_fldN (cl := clOf mg) T.fd_Book_row (pv 0)) (pa_cons (pv 1) pa_nil)))
      pss_nil))))))
    (fun c W h => by
      have := r_Book_put c W
      rw [h] at this
      exact this)
theorem ok_is_worth (T : Facts K mg)   : DefOk P w K mg base (L2.CX P w) "is_worth" ["text"] 1 (spP ⟨K, clOf mg, w⟩ F_is_worth) :=
  defP T.d_is_worth sc_is_worth (fun _ _ _ _ _ _ us hl => match us, hl with | [_], _ => rfl) (by decide) (t_is_worth ⟨K, clOf mg, w⟩)
    (fun cdv A outer s H E f hr => by
      have tk : Takes (cxOf (L2.CX P w) P w K mg base NN_is_worth "is_worth" (defScope s_is_worth) f cdv A outer s H E) (WD E) := takes_of rfl rfl rfl rfl
      have po : PassesOwn (model P w) (cxOf (L2.CX P w) P w K mg base NN_is_worth "is_worth" (defScope s_is_worth) f cdv A outer s H E).A (cxOf (L2.CX P w) P w K mg base NN_is_worth "is_worth" (defScope s_is_worth) f cdv A outer s H E).env (cxOf (L2.CX P w) P w K mg base NN_is_worth "is_worth" (defScope s_is_worth) f cdv A outer s H E).xe := passes_of rfl
      exact (pss_cons (ps_if (PW.pt (pw_or (pt_not (pt_chain op_uLe op_uLe pe_int (pe_callB call_uLen (by rfl) T.n_len PySem.boot_len (pa_cons (pv 0) pa_nil)) pe_int)) (pw_or1 (PW.pt (pw_and (pt_cmpR (op_uEq hr.units) (pe_ix (ix_xIx (units9 hr)) (pv 0) pe_int (fun _ _ => rfl)) (pe_strL (l := [48]) (by decide +kernel)) (nomark _)) (pw_and1 (pt_cmpR (op_uNe hr.units) (pv 0) (pe_strL (l := [48]) (by decide +kernel)) (nomark _)))))))) (pss_cons (ps_ret pe_bl)
      pss_nil) pss_nil)
      (pss_cons (ps_ret (pe_callB (cr_all rfl) (by rfl) T.n_all (by decide +kernel) (pa_cons (pe_lc (own := [(("sign" : Str), 1)]) (by rfl) sc_is_worth.nd (pi_sq (pv 0)) (blkOk_by (own := [(("sign" : Str), 1)]) (N := NN_is_worth) (sc := defScope s_is_worth) (by decide +kernel)) (fun _ _ _ _ _ => (pg_name (i := 1) sc_is_worth.nd rfl (by first | exact Or.inl rfl | exact Or.inr rfl))) (fun _ _ _ _ _ => pts_nil) (fun _ _ _ _ _ => (pe_cmpR (op_xIn (units65 hr)) (pv 1) (pe_globE T.c_FIGURES) (by rfl)))) pa_nil)))
      pss_nil)))
    (fun c W h => by
      have := r_is_worth c W
      rw [h] at this
      exact this)
theorem ok_Book_has (T : Facts K mg)   : MethR P w K mg base "Book" "has" "Book.has" s_Book_has [] ["self", "word"] 1 (spP ⟨K, clOf mg, w⟩ F_Book_has) :=
  methP T.d_Book_has sc_Book_has (by decide) (t_Book_has ⟨K, clOf mg, w⟩)
    (fun cdv A outer s H E f hr => by
      have tk : Takes (cxOf (L2.CX P w) P w K mg base NN_Book_has "Book.has" (defScope s_Book_has) f cdv A outer s H E) (WD E) := takes_of rfl rfl rfl rfl
      have po : PassesOwn (model P w) (cxOf (L2.CX P w) P w K mg base NN_Book_has "Book.has" (defScope s_Book_has) f cdv A outer s H E).A (cxOf (L2.CX P w) P w K mg base NN_Book_has "Book.has" (defScope s_Book_has) f cdv A outer s H E).env (cxOf (L2.CX P w) P w K mg base NN_Book_has "Book.has" (defScope s_Book_has) f cdv A outer s H E).xe := passes_of rfl
      exact (pss_cons (ps_ret (pe_cmpR (op_xIn (units65 hr)) (pv 1) (pe_fldN (cl := clOf mg) T.fd_Book_worths (pv 0)) (by rfl)))
      pss_nil))
    (fun c W h => by
      have := r_Book_has c W
      rw [h] at this
      exact this)
theorem ok_Book___init__ (T : Facts K mg)   : InitR P w K mg base "Book" "Book.__init__" s_Book___init__ [] ["self"] 1 (spM ⟨K, clOf mg, w⟩ [true] F_Book___init__) :=
  initM T.d_Book___init__ sc_Book___init__ rfl (by decide) (t_Book___init__ ⟨K, clOf mg, w⟩)
    (fun cdv A outer s H E f hr => by
      have tk : Takes (cxOf (L2.CX P w) P w K mg base NN_Book___init__ "Book.__init__" (defScope s_Book___init__) f cdv A outer s H E) (WD E) := takes_of rfl rfl rfl rfl
      have po : PassesOwn (model P w) (cxOf (L2.CX P w) P w K mg base NN_Book___init__ "Book.__init__" (defScope s_Book___init__) f cdv A outer s H E).A (cxOf (L2.CX P w) P w K mg base NN_Book___init__ "Book.__init__" (defScope s_Book___init__) f cdv A outer s H E).env (cxOf (L2.CX P w) P w K mg base NN_Book___init__ "Book.__init__" (defScope s_Book___init__) f cdv A outer s H E).xe := passes_of rfl
      exact (pss_cons (ps_fldN (cl := clOf mg) T.fd_Book_worths (pv 0) pe_dnewK)
      (pss_cons (ps_fldN (cl := clOf mg) T.fd_Book_row (pv 0) (pe_lst pa_nil))
      (pss_cons (ps_fldN (cl := clOf mg) T.fd_Book_bits (pv 0) pe_dnewM)
      pss_nil))))
    (fun c W h => by
      have := r_Book___init__ c W
      rw [h] at this
      exact this)
theorem ok_read_book (T : Facts K mg)  (D_Book_put : MethR P w K mg base "Book" "put" "Book.put" s_Book_put [.int 0] ["self", "word", "worth"] 3 (spM ⟨K, clOf mg, w⟩ [true, false, false] F_Book_put)) (D_is_word : DefOk P w K mg base (L2.CX P w) "is_word" ["thing"] 1 (spP ⟨K, clOf mg, w⟩ F_is_word)) (D_is_worth : DefOk P w K mg base (L2.CX P w) "is_worth" ["text"] 1 (spP ⟨K, clOf mg, w⟩ F_is_worth)) (D_Book_has : MethR P w K mg base "Book" "has" "Book.has" s_Book_has [] ["self", "word"] 1 (spP ⟨K, clOf mg, w⟩ F_Book_has)) (D_Book___init__ : InitR P w K mg base "Book" "Book.__init__" s_Book___init__ [] ["self"] 1 (spM ⟨K, clOf mg, w⟩ [true] F_Book___init__)) : DefOk P w K mg base (L2.CX P w) "read_book" ["text"] 4 (spP ⟨K, clOf mg, w⟩ F_read_book) :=
  defP T.d_read_book sc_read_book (fun _ _ _ _ _ _ us hl => match us, hl with | [_], _ => rfl) (by decide) (t_read_book ⟨K, clOf mg, w⟩)
    (fun cdv A outer s H E f hr => by
      have tk : Takes (cxOf (L2.CX P w) P w K mg base NN_read_book "read_book" (defScope s_read_book) f cdv A outer s H E) (WD E) := takes_of rfl rfl rfl rfl
      have po : PassesOwn (model P w) (cxOf (L2.CX P w) P w K mg base NN_read_book "read_book" (defScope s_read_book) f cdv A outer s H E).A (cxOf (L2.CX P w) P w K mg base NN_read_book "read_book" (defScope s_read_book) f cdv A outer s H E).env (cxOf (L2.CX P w) P w K mg base NN_read_book "read_book" (defScope s_read_book) f cdv A outer s H E).xe := passes_of rfl
      have XI_NoLine := xi_NoLine (P := P) (w := w) (base := base) T
      exact (pss_cons (ps_if (pt_not (pt_val (pe_callB call_uIsi (by rfl) T.n_isinstance (by decide +kernel) (pa_cons (pv 0) (pa_cons (pe_bltn (by rfl) T.n_str (by decide +kernel) rfl) pa_nil))))) (pss_cons (ps_raise1 (Wp := ⟨K, clOf mg, w⟩) XI_NoLine (hr.mono (by decide)) rfl tk pe_int)
      pss_nil) pss_nil)
      (pss_cons (ps_set (i := 1) sc_read_book.nd rfl (by first | exact Or.inl rfl | exact Or.inr rfl) (pe_makeN0 D_Book___init__ (fun f fd F => ⟨[], .nil, F.bindsN (fun _ _ _ _ _ _ us hl => match us, hl with | [_], _ => rfl)⟩) (hr.mono (by decide)) tk))
      (pss_cons (ps_if (pt_cmpR (op_uEq hr.units) (pv 0) (pe_strL (l := []) (by decide +kernel)) (nomark _)) (pss_cons (ps_ret (pv 1))
      pss_nil) pss_nil)
      (pss_cons (ps_for po rfl (pi_enumU (by rfl) T.n_enumerate (pa_cons (pe_split (pv 0) (pe_strL (l := [10]) (by decide +kernel))) pa_nil)) (pg_tup (by rfl) (pgs_cons (pg_name (i := 2) sc_read_book.nd rfl (by first | exact Or.inl rfl | exact Or.inr rfl)) (pgs_cons (pg_name (i := 3) sc_read_book.nd rfl (by first | exact Or.inl rfl | exact Or.inr rfl)) pgs_nil)))
      (pss_cons (ps_asg (pe_partition (pv 3) (pe_strL (l := [32]) (by decide +kernel))) (pg_tup (by rfl) (pgs_cons (pg_name (i := 4) sc_read_book.nd rfl (by first | exact Or.inl rfl | exact Or.inr rfl)) (pgs_cons (pg_name (i := 5) sc_read_book.nd rfl (by first | exact Or.inl rfl | exact Or.inr rfl)) (pgs_cons (pg_name (i := 6) sc_read_book.nd rfl (by first | exact Or.inl rfl | exact Or.inr rfl)) pgs_nil)))))
      (pss_cons (ps_if (PW.pt (pw_or (pt_cmpR (op_uEq hr.units) (pv 5) (pe_strL (l := []) (by decide +kernel)) (nomark _)) (pw_or (pt_not (pt_val (pe_callP D_is_word (hr.mono (by decide)) tk (pa_cons (pv 4) pa_nil)))) (pw_or (pt_not (pt_val (pe_callP D_is_worth (hr.mono (by decide)) tk (pa_cons (pv 6) pa_nil)))) (pw_or1 (pt_val (pe_methN D_Book_has (fun f fd F => ⟨[], .nil, F.bindsN (fun _ _ _ _ _ _ us hl => match us, hl with | [_, _], _ => rfl)⟩) (hr.mono (by decide)) tk (pv 1) (pa_cons (pv 4) pa_nil)))))))) (pss_cons (ps_raise1 (Wp := ⟨K, clOf mg, w⟩) XI_NoLine (hr.mono (by decide)) rfl tk (pv 2))
      pss_nil) pss_nil)
      (pss_cons (ps_expr (pe_methN D_Book_put (fun f fd F => F.binds1 3 1 (by simp) rfl (fun _ _ _ _ _ _ _ us its h1 h2 => match us, its, h1, h2 with | [_, _, _], [_], _, _ => ⟨_, rfl, rfl⟩)) (hr.mono (by decide)) tk (pv 1) (pa_cons (pv 4) (pa_cons (pe_callTy call_uInt (by rfl) T.n_int (by decide +kernel) (pa_cons (pv 6) pa_nil)) pa_nil))))
      pss_nil))))
      (pss_cons (ps_ret (pv 1))
      pss_nil))))))
    (fun c W h => by
      have := r_read_book c W
      rw [h] at this
      exact this)
theorem ok__law_at (T : Facts K mg)  (D__law_kinds : DefOk P w K mg base (L2.CX P w) "_law_kinds" ["_law_e"] 1 (spP ⟨K, clOf mg, w⟩ F__law_kinds)) (D_read_book : DefOk P w K mg base (L2.CX P w) "read_book" ["text"] 4 (spP ⟨K, clOf mg, w⟩ F_read_book)) : DefOk P w K mg base (L2.CX P w) "_law_at" ["_law_text"] 5 (spP ⟨K, clOf mg, w⟩ F__law_at) :=
  defP T.d__law_at sc__law_at (fun _ _ _ _ _ _ us hl => match us, hl with | [_], _ => rfl) (by decide) (t__law_at ⟨K, clOf mg, w⟩)
    (fun cdv A outer s H E f hr => by
      have tk : Takes (cxOf (L2.CX P w) P w K mg base NN__law_at "_law_at" (defScope s__law_at) f cdv A outer s H E) (WD E) := takes_of rfl rfl rfl rfl
      have po : PassesOwn (model P w) (cxOf (L2.CX P w) P w K mg base NN__law_at "_law_at" (defScope s__law_at) f cdv A outer s H E).A (cxOf (L2.CX P w) P w K mg base NN__law_at "_law_at" (defScope s__law_at) f cdv A outer s H E).env (cxOf (L2.CX P w) P w K mg base NN__law_at "_law_at" (defScope s__law_at) f cdv A outer s H E).xe := passes_of rfl
      obtain ⟨Cex0, gex0, hex0⟩ := T.ex_0
      exact (pss_cons (ps_set (i := 1) sc__law_at.nd rfl (by first | exact Or.inl rfl | exact Or.inr rfl) pe_non)
      (pss_cons (ps_set (i := 2) sc__law_at.nd rfl (by first | exact Or.inl rfl | exact Or.inr rfl) pe_non)
      (pss_cons (ps_tryK (i := 3) (Wp := ⟨K, clOf mg, w⟩) (tbl := [("NoLine", true), ("NoWord", true), ("NotThere", true), ("Twice", true)]) rfl rfl rfl sc__law_at.nd rfl rfl ⟨rfl, by decide, Or.inl gex0⟩ tk hex0
      (fun W1 pn xe tk1 po1 => (pss_cons (ps_set (i := 2) sc__law_at.nd rfl (by first | exact Or.inl rfl | exact Or.inr rfl) (pe_callP D_read_book (hr.mono (by decide)) tk1 (pa_cons (pv 0) pa_nil)))
      pss_nil))
      (fun a oe cls d pn hz hf => pss_cons (ps_set (i := 1) sc__law_at.nd rfl (by first | exact Or.inl rfl | exact Or.inr rfl) (pv 3)) pss_nil))
      (pss_cons (ps_if (pt_cmpR op_wIs (pv 1) pe_non (nomark _)) (pss_cons (ps_ret (pe_tup (pa_cons (pe_un un_neg pe_int) (pa_cons (pv 2) pa_nil))))
      pss_nil) pss_nil)
      (pss_cons (ps_if (PW.pt (pw_or (pt_not (pt_val (pe_isXK1 (Wp := ⟨K, clOf mg, w⟩) (c := .ty "ValueError") (cv := .type "ValueError") T.n_isinstance T.is_0 (fun _ h => h) (pv 1) (pe_bltn (by rfl) T.n_ValueError (by decide +kernel) rfl)))) (pw_or1 (pt_cmpR (op_uNe hr.units) (pe_callP D__law_kinds (hr.mono (by decide)) tk (pa_cons (pv 1) pa_nil)) (pe_lst (pa_cons pe_int pa_nil)) (nomark _))))) (pss_cons (ps_ret (pe_tup (pa_cons (pe_un un_neg pe_int) (pa_cons pe_non pa_nil))))
      pss_nil) pss_nil)
      (pss_cons (ps_ret (pe_tup (pa_cons (pe_xfK (Wp := ⟨K, clOf mg, w⟩) (fa_cons T.fl_0 fa_nil) (pv 1)) (pa_cons pe_non pa_nil))))
      pss_nil)))))))
    (fun c W h => by
      have := r__law_at c W
      rw [h] at this
      exact this)
theorem ok__law_cell_at (T : Facts K mg)   : DefOk P w K mg base (L2.CX P w) "_law_cell_at" ["_law_script", "_law_k"] 1 (spP ⟨K, clOf mg, w⟩ F__law_cell_at) :=
  defP T.d__law_cell_at sc__law_cell_at (fun _ _ _ _ _ _ us hl => match us, hl with | [_, _], _ => rfl) (by decide) (t__law_cell_at ⟨K, clOf mg, w⟩)
    (fun cdv A outer s H E f hr => by
      have tk : Takes (cxOf (L2.CX P w) P w K mg base NN__law_cell_at "_law_cell_at" (defScope s__law_cell_at) f cdv A outer s H E) (WD E) := takes_of rfl rfl rfl rfl
      have po : PassesOwn (model P w) (cxOf (L2.CX P w) P w K mg base NN__law_cell_at "_law_cell_at" (defScope s__law_cell_at) f cdv A outer s H E).A (cxOf (L2.CX P w) P w K mg base NN__law_cell_at "_law_cell_at" (defScope s__law_cell_at) f cdv A outer s H E).env (cxOf (L2.CX P w) P w K mg base NN__law_cell_at "_law_cell_at" (defScope s__law_cell_at) f cdv A outer s H E).xe := passes_of rfl
      exact (pss_cons (ps_if (pt_cmpR op_uLt (pv 1) (pe_callB call_uLen (by rfl) T.n_len PySem.boot_len (pa_cons (pv 0) pa_nil)) (nomark _)) (pss_cons (ps_ret (pe_ix (ix_xIx (units9 hr)) (pv 0) (pv 1) (fun _ _ => rfl)))
      pss_nil) pss_nil)
      (pss_cons (ps_ret pe_int)
      pss_nil)))
    (fun c W h => by
      have := r__law_cell_at c W
      rw [h] at this
      exact this)
theorem ok__law_is_line (T : Facts K mg)   : DefOk P w K mg base (L2.CX P w) "_law_is_line" ["_law_line_here"] 1 (spP ⟨K, clOf mg, w⟩ F__law_is_line) :=
  defP T.d__law_is_line sc__law_is_line (fun _ _ _ _ _ _ us hl => match us, hl with | [_], _ => rfl) (by decide) (t__law_is_line ⟨K, clOf mg, w⟩)
    (fun cdv A outer s H E f hr => by
      have tk : Takes (cxOf (L2.CX P w) P w K mg base NN__law_is_line "_law_is_line" (defScope s__law_is_line) f cdv A outer s H E) (WD E) := takes_of rfl rfl rfl rfl
      have po : PassesOwn (model P w) (cxOf (L2.CX P w) P w K mg base NN__law_is_line "_law_is_line" (defScope s__law_is_line) f cdv A outer s H E).A (cxOf (L2.CX P w) P w K mg base NN__law_is_line "_law_is_line" (defScope s__law_is_line) f cdv A outer s H E).env (cxOf (L2.CX P w) P w K mg base NN__law_is_line "_law_is_line" (defScope s__law_is_line) f cdv A outer s H E).xe := passes_of rfl
      exact (pss_cons (ps_asg (pe_partition (pv 0) (pe_strL (l := [32]) (by decide +kernel))) (pg_tup (by rfl) (pgs_cons (pg_name (i := 1) sc__law_is_line.nd rfl (by first | exact Or.inl rfl | exact Or.inr rfl)) (pgs_cons (pg_name (i := 2) sc__law_is_line.nd rfl (by first | exact Or.inl rfl | exact Or.inr rfl)) (pgs_cons (pg_name (i := 3) sc__law_is_line.nd rfl (by first | exact Or.inl rfl | exact Or.inr rfl)) pgs_nil)))))
      (pss_cons (ps_if (PW.pt (pw_or (pt_not (pt_chain op_uLe op_uLe pe_int (pe_callB call_uLen (by rfl) T.n_len PySem.boot_len (pa_cons (pv 1) pa_nil)) pe_int)) (pw_or (pt_not (pt_chain op_uLe op_uLe pe_int (pe_callB call_uLen (by rfl) T.n_len PySem.boot_len (pa_cons (pv 3) pa_nil)) pe_int)) (pw_or1 (PW.pt (pw_and (pt_cmpR (op_uEq hr.units) (pe_ix (ix_xIx (units9 hr)) (pv 3) pe_int (fun _ _ => rfl)) (pe_strL (l := [48]) (by decide +kernel)) (nomark _)) (pw_and1 (pt_cmpR (op_uNe hr.units) (pv 3) (pe_strL (l := [48]) (by decide +kernel)) (nomark _))))))))) (pss_cons (ps_ret pe_bl)
      pss_nil) pss_nil)
      (pss_cons (ps_for po rfl (pi_sq (pv 1)) (pg_name (i := 4) sc__law_is_line.nd rfl (by first | exact Or.inl rfl | exact Or.inr rfl))
      (pss_cons (ps_if (pt_cmpR (op_xNotIn (units65 hr)) (pv 4) (pe_strL (l := [97, 98, 99, 100, 101, 102, 103, 104, 105, 106, 107, 108, 109, 110, 111, 112, 113, 114, 115, 116, 117, 118, 119, 120, 121, 122]) (by decide +kernel)) (by rfl)) (pss_cons (ps_ret pe_bl)
      pss_nil) pss_nil)
      pss_nil))
      (pss_cons (ps_for po rfl (pi_sq (pv 3)) (pg_name (i := 4) sc__law_is_line.nd rfl (by first | exact Or.inl rfl | exact Or.inr rfl))
      (pss_cons (ps_if (pt_cmpR (op_xNotIn (units65 hr)) (pv 4) (pe_strL (l := [48, 49, 50, 51, 52, 53, 54, 55, 56, 57]) (by decide +kernel)) (by rfl)) (pss_cons (ps_ret pe_bl)
      pss_nil) pss_nil)
      pss_nil))
      (pss_cons (ps_ret pe_bl)
      pss_nil))))))
    (fun c W h => by
      have := r__law_is_line c W
      rw [h] at this
      exact this)
theorem ok__law_due (T : Facts K mg)  (D__law_is_line : DefOk P w K mg base (L2.CX P w) "_law_is_line" ["_law_line_here"] 1 (spP ⟨K, clOf mg, w⟩ F__law_is_line)) : DefOk P w K mg base (L2.CX P w) "_law_due" ["_law_lines_here"] 2 (spP ⟨K, clOf mg, w⟩ F__law_due) :=
  defP T.d__law_due sc__law_due (fun _ _ _ _ _ _ us hl => match us, hl with | [_], _ => rfl) (by decide) (t__law_due ⟨K, clOf mg, w⟩)
    (fun cdv A outer s H E f hr => by
      have tk : Takes (cxOf (L2.CX P w) P w K mg base NN__law_due "_law_due" (defScope s__law_due) f cdv A outer s H E) (WD E) := takes_of rfl rfl rfl rfl
      have po : PassesOwn (model P w) (cxOf (L2.CX P w) P w K mg base NN__law_due "_law_due" (defScope s__law_due) f cdv A outer s H E).A (cxOf (L2.CX P w) P w K mg base NN__law_due "_law_due" (defScope s__law_due) f cdv A outer s H E).env (cxOf (L2.CX P w) P w K mg base NN__law_due "_law_due" (defScope s__law_due) f cdv A outer s H E).xe := passes_of rfl
      exact (pss_cons (ps_set (i := 1) sc__law_due.nd rfl (by first | exact Or.inl rfl | exact Or.inr rfl) pe_dnewK)
      (pss_cons (ps_for po rfl (pi_range1 (by rfl) T.n_range (pa_cons (pe_callB call_uLen (by rfl) T.n_len PySem.boot_len (pa_cons (pv 0) pa_nil)) pa_nil)) (pg_name (i := 2) sc__law_due.nd rfl (by first | exact Or.inl rfl | exact Or.inr rfl))
      (pss_cons (ps_asg (pe_partition (pe_ix (ix_xIx (units9 hr)) (pv 0) (pv 2) (fun _ _ => rfl)) (pe_strL (l := [32]) (by decide +kernel))) (pg_tup (by rfl) (pgs_cons (pg_name (i := 3) sc__law_due.nd rfl (by first | exact Or.inl rfl | exact Or.inr rfl)) (pgs_cons (pg_name (i := 4) sc__law_due.nd rfl (by first | exact Or.inl rfl | exact Or.inr rfl)) (pgs_cons (pg_name (i := 5) sc__law_due.nd rfl (by first | exact Or.inl rfl | exact Or.inr rfl)) pgs_nil)))))
      (pss_cons (ps_if (PW.pt (pw_or (pt_not (pt_val (pe_callP D__law_is_line (hr.mono (by decide)) tk (pa_cons (pe_ix (ix_xIx (units9 hr)) (pv 0) (pv 2) (fun _ _ => rfl)) pa_nil)))) (pw_or1 (pt_cmpR (op_xIn (units65 hr)) (pv 3) (pv 1) (by rfl))))) (pss_cons (ps_ret (pe_tup (pa_cons (pv 2) (pa_cons (pv 1) pa_nil))))
      pss_nil) pss_nil)
      (pss_cons (ps_asg (pe_callTy call_uInt (by rfl) T.n_int (by decide +kernel) (pa_cons (pv 5) pa_nil)) (pg_sub (pv 1) (pv 3) (set_uSet (units9 hr))))
      pss_nil))))
      (pss_cons (ps_ret (pe_tup (pa_cons (pe_un un_neg pe_int) (pa_cons (pv 1) pa_nil))))
      pss_nil))))
    (fun c W h => by
      have := r__law_due c W
      rw [h] at this
      exact this)
theorem ok__law_word (T : Facts K mg)  (D__law_cell_at : DefOk P w K mg base (L2.CX P w) "_law_cell_at" ["_law_script", "_law_k"] 1 (spP ⟨K, clOf mg, w⟩ F__law_cell_at)) : DefOk P w K mg base (L2.CX P w) "_law_word" ["_law_script", "_law_k"] 2 (spP ⟨K, clOf mg, w⟩ F__law_word) :=
  defP T.d__law_word sc__law_word (fun _ _ _ _ _ _ us hl => match us, hl with | [_, _], _ => rfl) (by decide) (t__law_word ⟨K, clOf mg, w⟩)
    (fun cdv A outer s H E f hr => by
      have tk : Takes (cxOf (L2.CX P w) P w K mg base NN__law_word "_law_word" (defScope s__law_word) f cdv A outer s H E) (WD E) := takes_of rfl rfl rfl rfl
      have po : PassesOwn (model P w) (cxOf (L2.CX P w) P w K mg base NN__law_word "_law_word" (defScope s__law_word) f cdv A outer s H E).A (cxOf (L2.CX P w) P w K mg base NN__law_word "_law_word" (defScope s__law_word) f cdv A outer s H E).env (cxOf (L2.CX P w) P w K mg base NN__law_word "_law_word" (defScope s__law_word) f cdv A outer s H E).xe := passes_of rfl
      exact (pss_cons (ps_set (i := 2) sc__law_word.nd rfl (by first | exact Or.inl rfl | exact Or.inr rfl) (pe_strL (l := [97, 98, 99, 100, 101, 102, 103, 104, 105, 106, 107, 108, 109, 110, 111, 112, 113, 114, 115, 116, 117, 118, 119, 120, 121, 122]) (by decide +kernel)))
      (pss_cons (ps_set (i := 3) sc__law_word.nd rfl (by first | exact Or.inl rfl | exact Or.inr rfl) (pe_callP D__law_cell_at (hr.mono (by decide)) tk (pa_cons (pv 0) (pa_cons pe_int pa_nil))))
      (pss_cons (ps_set (i := 4) sc__law_word.nd rfl (by first | exact Or.inl rfl | exact Or.inr rfl) (pe_op op_wAdd pe_int (pe_op op_uMod (pv 3) pe_int)))
      (pss_cons (ps_set (i := 5) sc__law_word.nd rfl (by first | exact Or.inl rfl | exact Or.inr rfl) (pe_op op_uMod (pe_op op_uDiv (pv 3) pe_int) (pv 4)))
      (pss_cons (ps_set (i := 6) sc__law_word.nd rfl (by first | exact Or.inl rfl | exact Or.inr rfl) (pe_strL (l := []) (by decide +kernel)))
      (pss_cons (ps_for po rfl (pi_range1 (by rfl) T.n_range (pa_cons (pv 4) pa_nil)) (pg_name (i := 7) sc__law_word.nd rfl (by first | exact Or.inl rfl | exact Or.inr rfl))
      (pss_cons (ps_set (i := 8) sc__law_word.nd rfl (by first | exact Or.inl rfl | exact Or.inr rfl) (pe_op op_wAdd (pe_op op_uDiv (pe_op op_uDiv (pv 3) pe_int) (pe_op op_wAdd (pv 7) pe_int)) (pe_op op_uMul (pv 7) (pv 7))))
      (pss_cons (ps_set (i := 6) sc__law_word.nd rfl (by first | exact Or.inl rfl | exact Or.inr rfl) (pe_op op_wAdd (pv 6) (pe_ix (ix_xIx (units9 hr)) (pv 2) (pe_op op_uMod (pe_op op_wAdd (pv 8) (pe_op op_uMul (pv 1) (pe_callTy call_uInt (by rfl) T.n_int (by decide +kernel) (pa_cons (pe_cmpR (op_uEq hr.units) (pv 7) (pv 5) (nomark _)) pa_nil)))) pe_int) (fun _ _ => rfl))))
      pss_nil)))
      (pss_cons (ps_if (pt_cmpR (op_uEq hr.units) (pe_op op_uMod (pv 1) pe_int) pe_int (nomark _)) (pss_cons (ps_ret (pe_slice sl_wSl (pv 6) po_none (po_some (pe_op op_wAdd pe_int (pe_op op_uMod (pe_op op_uDiv (pv 3) pe_int) (pe_op op_uSub (pv 4) pe_int))))))
      pss_nil) pss_nil)
      (pss_cons (ps_ret (pv 6))
      pss_nil)))))))))
    (fun c W h => by
      have := r__law_word c W
      rw [h] at this
      exact this)
theorem ok__law_odd (T : Facts K mg)  (D__law_word : DefOk P w K mg base (L2.CX P w) "_law_word" ["_law_script", "_law_k"] 2 (spP ⟨K, clOf mg, w⟩ F__law_word)) : DefOk P w K mg base (L2.CX P w) "_law_odd" ["_law_script", "_law_cell", "_law_lines_here"] 3 (spP ⟨K, clOf mg, w⟩ F__law_odd) :=
  defP T.d__law_odd sc__law_odd (fun _ _ _ _ _ _ us hl => match us, hl with | [_, _, _], _ => rfl) (by decide) (t__law_odd ⟨K, clOf mg, w⟩)
    (fun cdv A outer s H E f hr => by
      have tk : Takes (cxOf (L2.CX P w) P w K mg base NN__law_odd "_law_odd" (defScope s__law_odd) f cdv A outer s H E) (WD E) := takes_of rfl rfl rfl rfl
      have po : PassesOwn (model P w) (cxOf (L2.CX P w) P w K mg base NN__law_odd "_law_odd" (defScope s__law_odd) f cdv A outer s H E).A (cxOf (L2.CX P w) P w K mg base NN__law_odd "_law_odd" (defScope s__law_odd) f cdv A outer s H E).env (cxOf (L2.CX P w) P w K mg base NN__law_odd "_law_odd" (defScope s__law_odd) f cdv A outer s H E).xe := passes_of rfl
      exact (pss_cons (ps_set (i := 3) sc__law_odd.nd rfl (by first | exact Or.inl rfl | exact Or.inr rfl) (pe_callP D__law_word (hr.mono (by decide)) tk (pa_cons (pv 0) (pa_cons pe_int pa_nil))))
      (pss_cons (ps_set (i := 4) sc__law_odd.nd rfl (by first | exact Or.inl rfl | exact Or.inr rfl) (pe_lst (pa_cons (pe_strL (l := []) (by decide +kernel)) (pa_cons (pv 3) (pa_cons (pe_op op_wAdd (pv 3) (pe_strL (l := [32, 32, 55]) (by decide +kernel))) (pa_cons (pe_op op_wAdd (pv 3) (pe_strL (l := [32, 55, 32]) (by decide +kernel))) (pa_cons (pe_op op_wAdd (pe_op op_wAdd (pe_strL (l := [32]) (by decide +kernel)) (pv 3)) (pe_strL (l := [32, 55]) (by decide +kernel))) (pa_cons (pe_op op_wAdd (pe_slice sl_wSl (pv 3) po_none (po_some pe_int)) (pe_strL (l := [32, 55]) (by decide +kernel))) (pa_cons (pe_op op_wAdd (pv 3) (pe_strL (l := [32, 48, 55]) (by decide +kernel))) (pa_cons (pe_op op_wAdd (pv 3) (pe_strL (l := [32, 45, 55]) (by decide +kernel))) pa_nil))))))))))
      (pss_cons (ps_set (i := 4) sc__law_odd.nd rfl (by first | exact Or.inl rfl | exact Or.inr rfl) (pe_op op_wAdd (pv 4) (pe_lst (pa_cons (pe_op op_wAdd (pv 3) (pe_strL (l := [32]) (by decide +kernel))) (pa_cons (pe_op op_wAdd (pv 3) (pe_strL (l := [32, 55, 32, 55]) (by decide +kernel))) (pa_cons (pe_op op_wAdd (pe_upper (pv 3)) (pe_strL (l := [32, 55]) (by decide +kernel))) (pa_cons (pe_op op_wAdd (pe_op op_wAdd (pv 3) (pe_strL (l := [32]) (by decide +kernel))) (pe_op op_uMulS (pe_strL (l := [55]) (by decide +kernel)) pe_int)) (pa_cons (pe_op op_wAdd (pv 3) (pe_strL (l := [32, 43, 55]) (by decide +kernel))) (pa_cons (pe_op op_wAdd (pv 3) (pe_strL (l := [32, 55, 97]) (by decide +kernel))) pa_nil)))))))))
      (pss_cons (ps_set (i := 4) sc__law_odd.nd rfl (by first | exact Or.inl rfl | exact Or.inr rfl) (pe_op op_wAdd (pv 4) (pe_lst (pa_cons (pe_op op_wAdd (pv 3) (pe_strL (l := [97, 98, 99, 100, 101, 102, 103, 104, 32, 55]) (by decide +kernel))) (pa_cons (pe_op op_wAdd (pv 3) (pe_strL (l := [95, 55]) (by decide +kernel))) (pa_cons (pe_ix (ix_xIx (units9 hr)) (pv 2) (pe_op op_uMod (pe_op op_uDiv (pv 1) pe_int) (pe_callB call_uLen (by rfl) T.n_len PySem.boot_len (pa_cons (pv 2) pa_nil))) (fun _ _ => rfl)) (pa_cons (pe_op op_wAdd (pv 3) (pe_strL (l := [32, 48]) (by decide +kernel))) pa_nil)))))))
      (pss_cons (ps_expr (pe_bm PySem.F.plainAttrs_list PySem.F.slot_list_append PySem.F.type_list_append mt_append (pv 4) (pa_cons (pe_op op_wAdd (pe_op op_wAdd (pv 3) (pe_strL (l := [32]) (by decide +kernel))) (pe_op op_uMulS (pe_strL (l := [57]) (by decide +kernel)) pe_int)) pa_nil)))
      (pss_cons (ps_ret (pe_ix (ix_xIx (units9 hr)) (pv 4) (pe_op op_uMod (pv 1) pe_int) (fun _ _ => rfl)))
      pss_nil)))))))
    (fun c W h => by
      have := r__law_odd c W
      rw [h] at this
      exact this)
theorem ok__law_random (T : Facts K mg)   : DefOk P w K mg base (L2.CX P w) "_law_random" ["_law_cell"] 1 (spP ⟨K, clOf mg, w⟩ F__law_random) :=
  defP T.d__law_random sc__law_random (fun _ _ _ _ _ _ us hl => match us, hl with | [_], _ => rfl) (by decide) (t__law_random ⟨K, clOf mg, w⟩)
    (fun cdv A outer s H E f hr => by
      have tk : Takes (cxOf (L2.CX P w) P w K mg base NN__law_random "_law_random" (defScope s__law_random) f cdv A outer s H E) (WD E) := takes_of rfl rfl rfl rfl
      have po : PassesOwn (model P w) (cxOf (L2.CX P w) P w K mg base NN__law_random "_law_random" (defScope s__law_random) f cdv A outer s H E).A (cxOf (L2.CX P w) P w K mg base NN__law_random "_law_random" (defScope s__law_random) f cdv A outer s H E).env (cxOf (L2.CX P w) P w K mg base NN__law_random "_law_random" (defScope s__law_random) f cdv A outer s H E).xe := passes_of rfl
      exact (pss_cons (ps_set (i := 1) sc__law_random.nd rfl (by first | exact Or.inl rfl | exact Or.inr rfl) (pe_strL (l := []) (by decide +kernel)))
      (pss_cons (ps_set (i := 2) sc__law_random.nd rfl (by first | exact Or.inl rfl | exact Or.inr rfl) (pe_op op_wAdd (pe_op op_uMod (pv 0) pe_int) pe_int))
      (pss_cons (ps_for po rfl (pi_range1 (by rfl) T.n_range (pa_cons (pe_op op_wAdd pe_int (pe_op op_uMod (pv 0) pe_int)) pa_nil)) (pg_name (i := 3) sc__law_random.nd rfl (by first | exact Or.inl rfl | exact Or.inr rfl))
      (pss_cons (ps_set (i := 2) sc__law_random.nd rfl (by first | exact Or.inl rfl | exact Or.inr rfl) (pe_op op_uMod (pe_op op_uMul (pv 2) pe_int) pe_int))
      (pss_cons (ps_set (i := 1) sc__law_random.nd rfl (by first | exact Or.inl rfl | exact Or.inr rfl) (pe_op op_wAdd (pv 1) (pe_ix (ix_xIx (units9 hr)) (pe_strL (l := [97, 98, 99, 100, 101, 102, 103, 104, 105, 106, 107, 108, 109, 110, 111, 112, 113, 114, 115, 116, 117, 118, 119, 120, 121, 122]) (by decide +kernel)) (pe_op op_uMod (pe_op op_uDiv (pv 2) pe_int) pe_int) (fun _ _ => rfl))))
      pss_nil)))
      (pss_cons (ps_ret (pv 1))
      pss_nil)))))
    (fun c W h => by
      have := r__law_random c W
      rw [h] at this
      exact this)
theorem ok__law_line (T : Facts K mg)  (D__law_word : DefOk P w K mg base (L2.CX P w) "_law_word" ["_law_script", "_law_k"] 2 (spP ⟨K, clOf mg, w⟩ F__law_word)) (D__law_random : DefOk P w K mg base (L2.CX P w) "_law_random" ["_law_cell"] 1 (spP ⟨K, clOf mg, w⟩ F__law_random)) : DefOk P w K mg base (L2.CX P w) "_law_line" ["_law_script", "_law_cell"] 3 (spP ⟨K, clOf mg, w⟩ F__law_line) :=
  defP T.d__law_line sc__law_line (fun _ _ _ _ _ _ us hl => match us, hl with | [_, _], _ => rfl) (by decide) (t__law_line ⟨K, clOf mg, w⟩)
    (fun cdv A outer s H E f hr => by
      have tk : Takes (cxOf (L2.CX P w) P w K mg base NN__law_line "_law_line" (defScope s__law_line) f cdv A outer s H E) (WD E) := takes_of rfl rfl rfl rfl
      have po : PassesOwn (model P w) (cxOf (L2.CX P w) P w K mg base NN__law_line "_law_line" (defScope s__law_line) f cdv A outer s H E).A (cxOf (L2.CX P w) P w K mg base NN__law_line "_law_line" (defScope s__law_line) f cdv A outer s H E).env (cxOf (L2.CX P w) P w K mg base NN__law_line "_law_line" (defScope s__law_line) f cdv A outer s H E).xe := passes_of rfl
      exact (pss_cons (ps_set (i := 2) sc__law_line.nd rfl (by first | exact Or.inl rfl | exact Or.inr rfl) (pe_callP D__law_random (hr.mono (by decide)) tk (pa_cons (pv 1) pa_nil)))
      (pss_cons (ps_if (pt_cmpR (op_uEq hr.units) (pe_op op_uMod (pv 1) pe_int) pe_int (nomark _)) (pss_cons (ps_set (i := 2) sc__law_line.nd rfl (by first | exact Or.inl rfl | exact Or.inr rfl) (pe_callP D__law_word (hr.mono (by decide)) tk (pa_cons (pv 0) (pa_cons (pe_op op_uMod (pe_op op_uDiv (pv 1) pe_int) pe_int) pa_nil))))
      pss_nil) pss_nil)
      (pss_cons (ps_set (i := 3) sc__law_line.nd rfl (by first | exact Or.inl rfl | exact Or.inr rfl) (pe_callTy call_uStr (by rfl) T.n_str (by decide +kernel) (pa_cons (pe_op op_uMod (pe_op op_uDiv (pv 1) pe_int) (pe_ix (ix_xIx (units9 hr)) (pe_lst (pa_cons pe_int (pa_cons pe_int (pa_cons (pe_op op_uPow pe_int pe_int) pa_nil)))) (pe_op op_uMod (pe_op op_uDiv (pv 1) pe_int) pe_int) (fun _ _ => rfl))) pa_nil)))
      (pss_cons (ps_ret (pe_op op_wAdd (pe_op op_wAdd (pv 2) (pe_strL (l := [32]) (by decide +kernel))) (pv 3)))
      pss_nil)))))
    (fun c W h => by
      have := r__law_line c W
      rw [h] at this
      exact this)
theorem ok__law_lines (T : Facts K mg)  (D__law_odd : DefOk P w K mg base (L2.CX P w) "_law_odd" ["_law_script", "_law_cell", "_law_lines_here"] 3 (spP ⟨K, clOf mg, w⟩ F__law_odd)) (D__law_cell_at : DefOk P w K mg base (L2.CX P w) "_law_cell_at" ["_law_script", "_law_k"] 1 (spP ⟨K, clOf mg, w⟩ F__law_cell_at)) (D__law_line : DefOk P w K mg base (L2.CX P w) "_law_line" ["_law_script", "_law_cell"] 3 (spP ⟨K, clOf mg, w⟩ F__law_line)) : DefOk P w K mg base (L2.CX P w) "_law_lines" ["_law_script"] 4 (spP ⟨K, clOf mg, w⟩ F__law_lines) :=
  defP T.d__law_lines sc__law_lines (fun _ _ _ _ _ _ us hl => match us, hl with | [_], _ => rfl) (by decide) (t__law_lines ⟨K, clOf mg, w⟩)
    (fun cdv A outer s H E f hr => by
      have tk : Takes (cxOf (L2.CX P w) P w K mg base NN__law_lines "_law_lines" (defScope s__law_lines) f cdv A outer s H E) (WD E) := takes_of rfl rfl rfl rfl
      have po : PassesOwn (model P w) (cxOf (L2.CX P w) P w K mg base NN__law_lines "_law_lines" (defScope s__law_lines) f cdv A outer s H E).A (cxOf (L2.CX P w) P w K mg base NN__law_lines "_law_lines" (defScope s__law_lines) f cdv A outer s H E).env (cxOf (L2.CX P w) P w K mg base NN__law_lines "_law_lines" (defScope s__law_lines) f cdv A outer s H E).xe := passes_of rfl
      exact (pss_cons (ps_setLc (i := 1) (own := [(("_law_cell" : Str), 2)]) (by rfl) sc__law_lines.nd rfl rfl (sw_true rfl rfl rfl (by decide +kernel)) (pi_sq (pe_slice sl_wSl (pv 0) (po_some pe_int) (po_some pe_int))) (blkOk_by (own := [(("_law_cell" : Str), 2)]) (N := NN__law_lines) (sc := defScope s__law_lines) (by decide +kernel)) (fun _ _ _ _ _ => (pg_name (i := 2) sc__law_lines.nd rfl (by first | exact Or.inl rfl | exact Or.inr rfl))) (fun _ _ _ _ _ => pts_nil) (fun _ _ _ _ _ => (pe_callP D__law_line (hr.mono (by decide)) takesW0 (pa_cons (pv 0) (pa_cons (pv 2) pa_nil)))))
      (pss_cons (ps_set (i := 2) sc__law_lines.nd rfl (by first | exact Or.inl rfl | exact Or.inr rfl) (pe_op op_uDiv (pe_callP D__law_cell_at (hr.mono (by decide)) tk (pa_cons (pv 0) (pa_cons pe_int pa_nil))) pe_int))
      (pss_cons (ps_if (PW.pt (pw_and (pt_cmpR (op_uNe hr.units) (pv 1) (pe_lst pa_nil) (nomark _)) (pw_and1 (pt_cmpR (op_uEq hr.units) (pe_op op_uMod (pv 2) pe_int) pe_int (nomark _))))) (pss_cons (ps_set (i := 3) sc__law_lines.nd rfl (by first | exact Or.inl rfl | exact Or.inr rfl) (pe_op op_uMod (pe_op op_uDiv (pv 2) pe_int) (pe_op op_wAdd (pe_callB call_uLen (by rfl) T.n_len PySem.boot_len (pa_cons (pv 1) pa_nil)) pe_int)))
      (pss_cons (ps_set (i := 1) sc__law_lines.nd rfl (by first | exact Or.inl rfl | exact Or.inr rfl) (pe_op op_wAdd (pe_op op_wAdd (pe_slice sl_wSl (pv 1) po_none (po_some (pv 3))) (pe_lst (pa_cons (pe_callP D__law_odd (hr.mono (by decide)) tk (pa_cons (pv 0) (pa_cons (pe_op op_uDiv (pv 2) pe_int) (pa_cons (pv 1) pa_nil)))) pa_nil))) (pe_slice sl_wSl (pv 1) (po_some (pv 3)) po_none)))
      pss_nil)) pss_nil)
      (pss_cons (ps_ret (pv 1))
      pss_nil)))))
    (fun c W h => by
      have := r__law_lines c W
      rw [h] at this
      exact this)
theorem ok_law (T : Facts K mg) {f : Addr} {fd : FuncData} (F : Fun K "law" "law" s_law f fd) (D_Book_words : MethR P w K mg base "Book" "words" "Book.words" s_Book_words [] ["self"] 1 (spP ⟨K, clOf mg, w⟩ F_Book_words)) (D_Book_worth : MethR P w K mg base "Book" "worth" "Book.worth" s_Book_worth [] ["self", "word"] 4 (spP ⟨K, clOf mg, w⟩ F_Book_worth)) (D__law_at : DefOk P w K mg base (L2.CX P w) "_law_at" ["_law_text"] 5 (spP ⟨K, clOf mg, w⟩ F__law_at)) (D__law_cell_at : DefOk P w K mg base (L2.CX P w) "_law_cell_at" ["_law_script", "_law_k"] 1 (spP ⟨K, clOf mg, w⟩ F__law_cell_at)) (D__law_due : DefOk P w K mg base (L2.CX P w) "_law_due" ["_law_lines_here"] 2 (spP ⟨K, clOf mg, w⟩ F__law_due)) (D__law_lines : DefOk P w K mg base (L2.CX P w) "_law_lines" ["_law_script"] 4 (spP ⟨K, clOf mg, w⟩ F__law_lines)) : FnOk P w K mg base (L2.CX P w) 6 f fd ["_law_script"] (spP ⟨K, clOf mg, w⟩ F_law) :=
  fnP F sc_law (by decide) (t_law ⟨K, clOf mg, w⟩)
    (fun cdv A outer s H E f hr => by
      have tk : Takes (cxOf (L2.CX P w) P w K mg base NN_law "law" (defScope s_law) f cdv A outer s H E) (WD E) := takes_of rfl rfl rfl rfl
      have po : PassesOwn (model P w) (cxOf (L2.CX P w) P w K mg base NN_law "law" (defScope s_law) f cdv A outer s H E).A (cxOf (L2.CX P w) P w K mg base NN_law "law" (defScope s_law) f cdv A outer s H E).env (cxOf (L2.CX P w) P w K mg base NN_law "law" (defScope s_law) f cdv A outer s H E).xe := passes_of rfl
      exact (pss_cons (ps_set (i := 1) sc_law.nd rfl (by first | exact Or.inl rfl | exact Or.inr rfl) (pe_callP D__law_lines (hr.mono (by decide)) tk (pa_cons (pv 0) pa_nil)))
      (pss_cons (ps_asg (pe_callP D__law_due (hr.mono (by decide)) tk (pa_cons (pv 1) pa_nil)) (pg_tup (by rfl) (pgs_cons (pg_name (i := 2) sc_law.nd rfl (by first | exact Or.inl rfl | exact Or.inr rfl)) (pgs_cons (pg_name (i := 3) sc_law.nd rfl (by first | exact Or.inl rfl | exact Or.inr rfl)) pgs_nil))))
      (pss_cons (ps_if (pt_cmpR (op_uEq hr.units) (pv 1) (pe_lst pa_nil) (nomark _)) (pss_cons (ps_set (i := 2) sc_law.nd rfl (by first | exact Or.inl rfl | exact Or.inr rfl) (pe_un un_neg pe_int))
      pss_nil) pss_nil)
      (pss_cons (ps_asg (pe_callP D__law_at (hr.mono (by decide)) tk (pa_cons (pe_join (pe_strL (l := [10]) (by decide +kernel)) (pv 1)) pa_nil)) (pg_tup (by rfl) (pgs_cons (pg_name (i := 4) sc_law.nd rfl (by first | exact Or.inl rfl | exact Or.inr rfl)) (pgs_cons (pg_name (i := 5) sc_law.nd rfl (by first | exact Or.inl rfl | exact Or.inr rfl)) pgs_nil))))
      (pss_cons (ps_if (PW.pt (pw_or (pt_val (pe_callB call_uIsi (by rfl) T.n_isinstance (by decide +kernel) (pa_cons (pv 4) (pa_cons (pe_bltn (by rfl) T.n_bool (by decide +kernel) rfl) pa_nil)))) (pw_or1 (pt_cmpR (op_uNe hr.units) (pv 4) (pv 2) (nomark _))))) (pss_cons (ps_ret pe_bl)
      pss_nil) pss_nil)
      (pss_cons (ps_if (pt_cmpR op_uGe (pv 2) pe_int (nomark _)) (pss_cons (ps_ret (pe_cmpR (op_uEq hr.units) (pe_ix (ix_xIx (units9 hr)) (pe_callP D__law_at (hr.mono (by decide)) tk (pa_cons (pe_ix (ix_xIx (units9 hr)) (pe_lst (pa_cons pe_non (pa_cons pe_int (pa_cons (pv 1) (pa_cons (pe_tup (pa_cons (pe_strL (l := [97, 98, 32, 55]) (by decide +kernel)) pa_nil)) pa_nil))))) (pe_op op_uMod (pe_callP D__law_cell_at (hr.mono (by decide)) tk (pa_cons (pv 0) (pa_cons pe_int pa_nil))) pe_int) (fun _ _ => rfl)) pa_nil)) pe_int (fun _ _ => rfl)) pe_int (nomark _)))
      pss_nil) pss_nil)
      (pss_cons (ps_lock (ps_for po rfl (pi_keys (pv 3)) (pg_name (i := 6) sc_law.nd rfl (by first | exact Or.inl rfl | exact Or.inr rfl))
      (pss_cons (ps_set (i := 7) sc_law.nd rfl (by first | exact Or.inl rfl | exact Or.inr rfl) (pe_methN D_Book_worth (fun f fd F => ⟨[], .nil, F.bindsN (fun _ _ _ _ _ _ us hl => match us, hl with | [_, _], _ => rfl)⟩) (hr.mono (by decide)) tk (pv 5) (pa_cons (pv 6) pa_nil)))
      (pss_cons (ps_if (PW.pt (pw_or (pt_not (pt_val (pe_callB call_uIsi (by rfl) T.n_isinstance (by decide +kernel) (pa_cons (pv 7) (pa_cons (pe_bltn (by rfl) T.n_int (by decide +kernel) rfl) pa_nil))))) (pw_or1 (pt_cmpR (op_uNe hr.units) (pv 7) (pe_ix (ix_xIx (units9 hr)) (pv 3) (pv 6) (fun _ _ => rfl)) (nomark _))))) (pss_cons (ps_ret pe_bl)
      pss_nil) pss_nil)
      pss_nil))))
      (pss_cons (ps_ret (pe_cmpR (op_uEq hr.units) (pe_methN0 D_Book_words (fun f fd F => ⟨[], .nil, F.bindsN (fun _ _ _ _ _ _ us hl => match us, hl with | [_], _ => rfl)⟩) (hr.mono (by decide)) tk (pv 5)) (pe_callB (call_sortS rfl) (by rfl) T.n_sorted (by decide +kernel) (pa_cons (pv 3) pa_nil)) (nomark _)))
      pss_nil)))))))))
    (fun c W h => by
      have := r_law c W
      rw [h] at this
      exact this)
theorem all_ok (T : Facts K mg) {f : Addr} {fd : FuncData} (F : Fun K "law" "law" s_law f fd) : FnOk P w K mg base (L2.CX P w) 6 f fd ["_law_script"] (spP ⟨K, clOf mg, w⟩ F_law) := by
  have D_Book_words := ok_Book_words (P := P) (w := w) (base := base) T 
  have D_is_word := ok_is_word (P := P) (w := w) (base := base) T 
  have D_Book_need := ok_Book_need (P := P) (w := w) (base := base) T D_is_word
  have D_Book_worth := ok_Book_worth (P := P) (w := w) (base := base) T D_Book_need
  have D__law_kinds := ok__law_kinds (P := P) (w := w) (base := base) T 
  have D_Book_turn_bits := ok_Book_turn_bits (P := P) (w := w) (base := base) T 
  have D_Book_put := ok_Book_put (P := P) (w := w) (base := base) T D_Book_turn_bits D_is_word
  have D_is_worth := ok_is_worth (P := P) (w := w) (base := base) T 
  have D_Book_has := ok_Book_has (P := P) (w := w) (base := base) T 
  have D_Book___init__ := ok_Book___init__ (P := P) (w := w) (base := base) T 
  have D_read_book := ok_read_book (P := P) (w := w) (base := base) T D_Book_put D_is_word D_is_worth D_Book_has D_Book___init__
  have D__law_at := ok__law_at (P := P) (w := w) (base := base) T D__law_kinds D_read_book
  have D__law_cell_at := ok__law_cell_at (P := P) (w := w) (base := base) T 
  have D__law_is_line := ok__law_is_line (P := P) (w := w) (base := base) T 
  have D__law_due := ok__law_due (P := P) (w := w) (base := base) T D__law_is_line
  have D__law_word := ok__law_word (P := P) (w := w) (base := base) T D__law_cell_at
  have D__law_odd := ok__law_odd (P := P) (w := w) (base := base) T D__law_word
  have D__law_random := ok__law_random (P := P) (w := w) (base := base) T 
  have D__law_line := ok__law_line (P := P) (w := w) (base := base) T D__law_word D__law_random
  have D__law_lines := ok__law_lines (P := P) (w := w) (base := base) T D__law_odd D__law_cell_at D__law_line
  exact ok_law T F D_Book_words D_Book_worth D__law_at D__law_cell_at D__law_due D__law_lines
end
theorem facts {K : Fg} {h : Heap} {mg : Str → Option Value} (X : K.In h) (G : h.Ns mainGlobals mg) {f0 f1 f2 f3 f4 f5 f6 f7 f8 f9 f10 f11 f12 f13 f14 f15 f16 f17 f18 f19 f20 : Addr} {od0 an0 od1 an1 od2 an2 od3 an3 od4 an4 od5 an5 od6 an6 od7 an7 od8 an8 od9 an9 od10 an10 od11 an11 od12 an12 od13 an13 od14 an14 od15 an15 od16 an16 od17 an17 od18 an18 od19 an19 od20 an20 : Option Addr} {sl0 sl1 sl2 sl3 sl4 sl5 sl6 sl7 sl8 sl9 sl10 sl11 sl12 sl13 sl14 sl15 sl16 sl17 sl18 sl19 sl20 : Array (Option Value)} {oc0 kV0 dc0 pm0 cd0 ct0 oc1 kV1 dc1 pm1 cd1 ct1 oc2 kV2 dc2 pm2 cd2 ct2 oc3 kV3 dc3 pm3 cd3 ct3 oc4 kV4 dc4 pm4 cd4 ct4 oc5 kV5 dc5 pm5 cd5 ct5 oc6 kV6 dc6 pm6 cd6 ct6 oc7 kV7 dc7 pm7 cd7 ct7 oc8 kV8 dc8 pm8 cd8 ct8 oc9 kV9 dc9 pm9 cd9 ct9 oc10 kV10 dc10 pm10 cd10 ct10 oc11 kV11 dc11 pm11 cd11 ct11 oc12 kV12 dc12 pm12 cd12 ct12 oc13 kV13 dc13 pm13 cd13 ct13 oc14 kV14 dc14 pm14 cd14 ct14 oc15 kV15 dc15 pm15 cd15 ct15 oc16 kV16 dc16 pm16 cd16 ct16 oc17 kV17 dc17 pm17 cd17 ct17 oc18 kV18 dc18 pm18 cd18 ct18 oc19 kV19 dc19 pm19 cd19 ct19 oc20 kV20 dc20 pm20 cd20 ct20 : Value} {tk0 tk1 tk2 : Tok}
    {cl_NoLine cl_NoWord cl_NotThere cl_Twice cl_CrossError cl_NoDeed cl_NoName cl_NoStep cl_NoWorking cl_NoMatch cl_NotFilled cl_NoFloor cl_NoSheet : Addr} {nm_NoLine qq_NoLine : Str} {NN_NoLine : Addr} {bs_NoLine : List Value} {sn_NoLine : List Str} {sub_NoLine : List Value} {ab_NoLine : Bool} {col_NoLine : Option Bool} {dd_NoLine : Option Addr} {m0_NoLine m1_NoLine m2_NoLine m3_NoLine m5_NoLine : Option Value} {fi_NoLine : Addr} {fod_NoLine fan_NoLine : Option Addr} {fsl_NoLine : Array (Option Value)} {foc_NoLine fkV_NoLine fdc_NoLine fpm_NoLine fcd_NoLine fct_NoLine : Value} {nm_NoWord qq_NoWord : Str} {NN_NoWord : Addr} {bs_NoWord : List Value} {sn_NoWord : List Str} {sub_NoWord : List Value} {ab_NoWord : Bool} {col_NoWord : Option Bool} {dd_NoWord : Option Addr} {m0_NoWord m1_NoWord m2_NoWord m3_NoWord m5_NoWord : Option Value} {fi_NoWord : Addr} {fod_NoWord fan_NoWord : Option Addr} {fsl_NoWord : Array (Option Value)} {foc_NoWord fkV_NoWord fdc_NoWord fpm_NoWord fcd_NoWord fct_NoWord : Value} {nm_NotThere qq_NotThere : Str} {NN_NotThere : Addr} {bs_NotThere : List Value} {sn_NotThere : List Str} {sub_NotThere : List Value} {ab_NotThere : Bool} {col_NotThere : Option Bool} {dd_NotThere : Option Addr} {m0_NotThere m1_NotThere m2_NotThere m3_NotThere m5_NotThere : Option Value} {fi_NotThere : Addr} {fod_NotThere fan_NotThere : Option Addr} {fsl_NotThere : Array (Option Value)} {foc_NotThere fkV_NotThere fdc_NotThere fpm_NotThere fcd_NotThere fct_NotThere : Value} {nm_Twice qq_Twice : Str} {NN_Twice : Addr} {bs_Twice : List Value} {sn_Twice : List Str} {sub_Twice : List Value} {ab_Twice : Bool} {col_Twice : Option Bool} {dd_Twice : Option Addr} {m0_Twice m1_Twice m2_Twice m3_Twice m5_Twice : Option Value} {fi_Twice : Addr} {fod_Twice fan_Twice : Option Addr} {fsl_Twice : Array (Option Value)} {foc_Twice fkV_Twice fdc_Twice fpm_Twice fcd_Twice fct_Twice : Value} 
    (ca_NoLine : PySem.W.nsIn K mainGlobals "NoLine" = some (some (.ref cl_NoLine)))
    (ca_NoWord : PySem.W.nsIn K mainGlobals "NoWord" = some (some (.ref cl_NoWord)))
    (ca_NotThere : PySem.W.nsIn K mainGlobals "NotThere" = some (some (.ref cl_NotThere)))
    (ca_Twice : PySem.W.nsIn K mainGlobals "Twice" = some (some (.ref cl_Twice)))
    (ca_CrossError : PySem.W.nsIn K mainGlobals "CrossError" = some (some (.ref cl_CrossError)))
    (ca_NoDeed : PySem.W.nsIn K mainGlobals "NoDeed" = some (some (.ref cl_NoDeed)))
    (ca_NoName : PySem.W.nsIn K mainGlobals "NoName" = some (some (.ref cl_NoName)))
    (ca_NoStep : PySem.W.nsIn K mainGlobals "NoStep" = some (some (.ref cl_NoStep)))
    (ca_NoWorking : PySem.W.nsIn K mainGlobals "NoWorking" = some (some (.ref cl_NoWorking)))
    (ca_NoMatch : PySem.W.nsIn K mainGlobals "NoMatch" = some (some (.ref cl_NoMatch)))
    (ca_NotFilled : PySem.W.nsIn K mainGlobals "NotFilled" = some (some (.ref cl_NotFilled)))
    (ca_NoFloor : PySem.W.nsIn K mainGlobals "NoFloor" = some (some (.ref cl_NoFloor)))
    (ca_NoSheet : PySem.W.nsIn K mainGlobals "NoSheet" = some (some (.ref cl_NoSheet)))
    (ck_NoLine : PySem.W.keepIn K (.ref cl_NoLine) = true)
    (ce_NoLine : PySem.W.subIn K (.ref cl_NoLine) (.type "BaseException") = some true)
    (ct_NoLine : PySem.W.typeIn K (.ref cl_NoLine) = some (.type "type"))
    (ci_NoLine : PySem.W.isClsIn K cl_NoLine = true)
    (cs_NoLine : PySem.W.subIn K (.ref cl_NoLine) (.ref cl_NoLine) = some true)
    (ck_NoWord : PySem.W.keepIn K (.ref cl_NoWord) = true)
    (ce_NoWord : PySem.W.subIn K (.ref cl_NoWord) (.type "BaseException") = some true)
    (ct_NoWord : PySem.W.typeIn K (.ref cl_NoWord) = some (.type "type"))
    (ci_NoWord : PySem.W.isClsIn K cl_NoWord = true)
    (cs_NoWord : PySem.W.subIn K (.ref cl_NoWord) (.ref cl_NoWord) = some true)
    (ck_NotThere : PySem.W.keepIn K (.ref cl_NotThere) = true)
    (ce_NotThere : PySem.W.subIn K (.ref cl_NotThere) (.type "BaseException") = some true)
    (ct_NotThere : PySem.W.typeIn K (.ref cl_NotThere) = some (.type "type"))
    (ci_NotThere : PySem.W.isClsIn K cl_NotThere = true)
    (cs_NotThere : PySem.W.subIn K (.ref cl_NotThere) (.ref cl_NotThere) = some true)
    (ck_Twice : PySem.W.keepIn K (.ref cl_Twice) = true)
    (ce_Twice : PySem.W.subIn K (.ref cl_Twice) (.type "BaseException") = some true)
    (ct_Twice : PySem.W.typeIn K (.ref cl_Twice) = some (.type "type"))
    (ci_Twice : PySem.W.isClsIn K cl_Twice = true)
    (cs_Twice : PySem.W.subIn K (.ref cl_Twice) (.ref cl_Twice) = some true)
    (ck_CrossError : PySem.W.keepIn K (.ref cl_CrossError) = true)
    (ce_CrossError : PySem.W.subIn K (.ref cl_CrossError) (.type "BaseException") = some true)
    (ct_CrossError : PySem.W.typeIn K (.ref cl_CrossError) = some (.type "type"))
    (ci_CrossError : PySem.W.isClsIn K cl_CrossError = true)
    (cs_CrossError : PySem.W.subIn K (.ref cl_CrossError) (.ref cl_CrossError) = some true)
    (ck_NoDeed : PySem.W.keepIn K (.ref cl_NoDeed) = true)
    (ce_NoDeed : PySem.W.subIn K (.ref cl_NoDeed) (.type "BaseException") = some true)
    (ct_NoDeed : PySem.W.typeIn K (.ref cl_NoDeed) = some (.type "type"))
    (ci_NoDeed : PySem.W.isClsIn K cl_NoDeed = true)
    (cs_NoDeed : PySem.W.subIn K (.ref cl_NoDeed) (.ref cl_NoDeed) = some true)
    (ck_NoName : PySem.W.keepIn K (.ref cl_NoName) = true)
    (ce_NoName : PySem.W.subIn K (.ref cl_NoName) (.type "BaseException") = some true)
    (ct_NoName : PySem.W.typeIn K (.ref cl_NoName) = some (.type "type"))
    (ci_NoName : PySem.W.isClsIn K cl_NoName = true)
    (cs_NoName : PySem.W.subIn K (.ref cl_NoName) (.ref cl_NoName) = some true)
    (ck_NoStep : PySem.W.keepIn K (.ref cl_NoStep) = true)
    (ce_NoStep : PySem.W.subIn K (.ref cl_NoStep) (.type "BaseException") = some true)
    (ct_NoStep : PySem.W.typeIn K (.ref cl_NoStep) = some (.type "type"))
    (ci_NoStep : PySem.W.isClsIn K cl_NoStep = true)
    (cs_NoStep : PySem.W.subIn K (.ref cl_NoStep) (.ref cl_NoStep) = some true)
    (ck_NoWorking : PySem.W.keepIn K (.ref cl_NoWorking) = true)
    (ce_NoWorking : PySem.W.subIn K (.ref cl_NoWorking) (.type "BaseException") = some true)
    (ct_NoWorking : PySem.W.typeIn K (.ref cl_NoWorking) = some (.type "type"))
    (ci_NoWorking : PySem.W.isClsIn K cl_NoWorking = true)
    (cs_NoWorking : PySem.W.subIn K (.ref cl_NoWorking) (.ref cl_NoWorking) = some true)
    (ck_NoMatch : PySem.W.keepIn K (.ref cl_NoMatch) = true)
    (ce_NoMatch : PySem.W.subIn K (.ref cl_NoMatch) (.type "BaseException") = some true)
    (ct_NoMatch : PySem.W.typeIn K (.ref cl_NoMatch) = some (.type "type"))
    (ci_NoMatch : PySem.W.isClsIn K cl_NoMatch = true)
    (cs_NoMatch : PySem.W.subIn K (.ref cl_NoMatch) (.ref cl_NoMatch) = some true)
    (ck_NotFilled : PySem.W.keepIn K (.ref cl_NotFilled) = true)
    (ce_NotFilled : PySem.W.subIn K (.ref cl_NotFilled) (.type "BaseException") = some true)
    (ct_NotFilled : PySem.W.typeIn K (.ref cl_NotFilled) = some (.type "type"))
    (ci_NotFilled : PySem.W.isClsIn K cl_NotFilled = true)
    (cs_NotFilled : PySem.W.subIn K (.ref cl_NotFilled) (.ref cl_NotFilled) = some true)
    (ck_NoFloor : PySem.W.keepIn K (.ref cl_NoFloor) = true)
    (ce_NoFloor : PySem.W.subIn K (.ref cl_NoFloor) (.type "BaseException") = some true)
    (ct_NoFloor : PySem.W.typeIn K (.ref cl_NoFloor) = some (.type "type"))
    (ci_NoFloor : PySem.W.isClsIn K cl_NoFloor = true)
    (cs_NoFloor : PySem.W.subIn K (.ref cl_NoFloor) (.ref cl_NoFloor) = some true)
    (ck_NoSheet : PySem.W.keepIn K (.ref cl_NoSheet) = true)
    (ce_NoSheet : PySem.W.subIn K (.ref cl_NoSheet) (.type "BaseException") = some true)
    (ct_NoSheet : PySem.W.typeIn K (.ref cl_NoSheet) = some (.type "type"))
    (ci_NoSheet : PySem.W.isClsIn K cl_NoSheet = true)
    (cs_NoSheet : PySem.W.subIn K (.ref cl_NoSheet) (.ref cl_NoSheet) = some true)
    (cspG : PySem.W.specialIn K (.builtin "object.__class__") "__get__" = some (some (.builtin "getset_descriptor.__get__")))
    (ctkG : PySem.W.takesIn K (.builtin "object.__class__") = some true)
    (rh_NoLine : PySem.W.hasDictIn K cl_NoLine = true)
    (rg_NoLine : PySem.W.findIn K (.ref cl_NoLine) "__getattribute__" = some (some (.builtin "BaseException.__getattribute__")))
    (rgg_NoLine : PySem.W.findIn K (.ref cl_NoLine) "__getattr__" = some none)
    (rc_NoLine : PySem.W.findIn K (.ref cl_NoLine) "__class__" = some (some (.builtin "object.__class__")))
    (rm_NoLine : PySem.W.mroIn K cl_NoLine (.type "object") = some true)
    (rv_NoLine : PySem.W.subIn K (.ref cl_NoLine) (.type "ValueError") = some true)
    (rp_NoLine_CrossError : PySem.W.subIn K (.ref cl_NoLine) (.ref cl_CrossError) = some true)
    (rp_NoLine_NoDeed : PySem.W.subIn K (.ref cl_NoLine) (.ref cl_NoDeed) = some false)
    (rp_NoLine_NoName : PySem.W.subIn K (.ref cl_NoLine) (.ref cl_NoName) = some false)
    (rp_NoLine_NoStep : PySem.W.subIn K (.ref cl_NoLine) (.ref cl_NoStep) = some false)
    (rp_NoLine_NoWorking : PySem.W.subIn K (.ref cl_NoLine) (.ref cl_NoWorking) = some false)
    (rp_NoLine_NoMatch : PySem.W.subIn K (.ref cl_NoLine) (.ref cl_NoMatch) = some false)
    (rp_NoLine_NotFilled : PySem.W.subIn K (.ref cl_NoLine) (.ref cl_NotFilled) = some false)
    (rp_NoLine_NoLine : PySem.W.subIn K (.ref cl_NoLine) (.ref cl_NoLine) = some true)
    (rp_NoLine_NotThere : PySem.W.subIn K (.ref cl_NoLine) (.ref cl_NotThere) = some false)
    (rp_NoLine_Twice : PySem.W.subIn K (.ref cl_NoLine) (.ref cl_Twice) = some false)
    (rp_NoLine_NoWord : PySem.W.subIn K (.ref cl_NoLine) (.ref cl_NoWord) = some false)
    (rp_NoLine_NoFloor : PySem.W.subIn K (.ref cl_NoLine) (.ref cl_NoFloor) = some false)
    (rp_NoLine_NoSheet : PySem.W.subIn K (.ref cl_NoLine) (.ref cl_NoSheet) = some false)
    (rl_NoLine : K.lookup cl_NoLine = some (excClassObj nm_NoLine qq_NoLine cl_NoLine NN_NoLine bs_NoLine [.ref cl_CrossError, .type "ValueError", .type "Exception", .type "BaseException", .type "object"] true sn_NoLine sub_NoLine ab_NoLine col_NoLine dd_NoLine m0_NoLine m1_NoLine m2_NoLine m3_NoLine m5_NoLine "ValueError.__new__"))
    (rs_NoLine : PySem.W.findIn K (.ref cl_NoLine) "__setattr__" = some (some (.builtin "object.__setattr__")))
    (ri_NoLine : PySem.W.findIn K (.ref cl_NoLine) "__init__" = some (some (.ref fi_NoLine)))
    (rt_NoLine : PySem.W.typeIn K (.ref fi_NoLine) = some (.type "function"))
    (rn_NoLine : PySem.W.findIn K (.ref cl_NoLine) "line" = some none)
    (rf_NoLine : K.lookup fi_NoLine = some ⟨foc_NoLine, fod_NoLine, .func (PySem.W.fnOf "__init__" "NoLine.__init__" (defArgs s_i_NoLine) (defBody s_i_NoLine) (defScope s_i_NoLine) .none fkV_NoLine fdc_NoLine fpm_NoLine fan_NoLine fcd_NoLine fct_NoLine), fsl_NoLine⟩)
    (re_NoLine : PySem.W.codeIn K fcd_NoLine "NoLine.__init__" = true)
    (rk_NoLine : PySem.W.keepIn K (.ref fi_NoLine) = true)
    (rh_NoWord : PySem.W.hasDictIn K cl_NoWord = true)
    (rg_NoWord : PySem.W.findIn K (.ref cl_NoWord) "__getattribute__" = some (some (.builtin "BaseException.__getattribute__")))
    (rgg_NoWord : PySem.W.findIn K (.ref cl_NoWord) "__getattr__" = some none)
    (rc_NoWord : PySem.W.findIn K (.ref cl_NoWord) "__class__" = some (some (.builtin "object.__class__")))
    (rm_NoWord : PySem.W.mroIn K cl_NoWord (.type "object") = some true)
    (rv_NoWord : PySem.W.subIn K (.ref cl_NoWord) (.type "ValueError") = some true)
    (rp_NoWord_CrossError : PySem.W.subIn K (.ref cl_NoWord) (.ref cl_CrossError) = some true)
    (rp_NoWord_NoDeed : PySem.W.subIn K (.ref cl_NoWord) (.ref cl_NoDeed) = some false)
    (rp_NoWord_NoName : PySem.W.subIn K (.ref cl_NoWord) (.ref cl_NoName) = some false)
    (rp_NoWord_NoStep : PySem.W.subIn K (.ref cl_NoWord) (.ref cl_NoStep) = some false)
    (rp_NoWord_NoWorking : PySem.W.subIn K (.ref cl_NoWord) (.ref cl_NoWorking) = some false)
    (rp_NoWord_NoMatch : PySem.W.subIn K (.ref cl_NoWord) (.ref cl_NoMatch) = some false)
    (rp_NoWord_NotFilled : PySem.W.subIn K (.ref cl_NoWord) (.ref cl_NotFilled) = some false)
    (rp_NoWord_NoLine : PySem.W.subIn K (.ref cl_NoWord) (.ref cl_NoLine) = some false)
    (rp_NoWord_NotThere : PySem.W.subIn K (.ref cl_NoWord) (.ref cl_NotThere) = some false)
    (rp_NoWord_Twice : PySem.W.subIn K (.ref cl_NoWord) (.ref cl_Twice) = some false)
    (rp_NoWord_NoWord : PySem.W.subIn K (.ref cl_NoWord) (.ref cl_NoWord) = some true)
    (rp_NoWord_NoFloor : PySem.W.subIn K (.ref cl_NoWord) (.ref cl_NoFloor) = some false)
    (rp_NoWord_NoSheet : PySem.W.subIn K (.ref cl_NoWord) (.ref cl_NoSheet) = some false)
    (rl_NoWord : K.lookup cl_NoWord = some (excClassObj nm_NoWord qq_NoWord cl_NoWord NN_NoWord bs_NoWord [.ref cl_CrossError, .type "ValueError", .type "Exception", .type "BaseException", .type "object"] true sn_NoWord sub_NoWord ab_NoWord col_NoWord dd_NoWord m0_NoWord m1_NoWord m2_NoWord m3_NoWord m5_NoWord "ValueError.__new__"))
    (rs_NoWord : PySem.W.findIn K (.ref cl_NoWord) "__setattr__" = some (some (.builtin "object.__setattr__")))
    (ri_NoWord : PySem.W.findIn K (.ref cl_NoWord) "__init__" = some (some (.ref fi_NoWord)))
    (rt_NoWord : PySem.W.typeIn K (.ref fi_NoWord) = some (.type "function"))
    (rn_NoWord : PySem.W.findIn K (.ref cl_NoWord) "word" = some none)
    (rf_NoWord : K.lookup fi_NoWord = some ⟨foc_NoWord, fod_NoWord, .func (PySem.W.fnOf "__init__" "NoWord.__init__" (defArgs s_i_NoWord) (defBody s_i_NoWord) (defScope s_i_NoWord) .none fkV_NoWord fdc_NoWord fpm_NoWord fan_NoWord fcd_NoWord fct_NoWord), fsl_NoWord⟩)
    (re_NoWord : PySem.W.codeIn K fcd_NoWord "NoWord.__init__" = true)
    (rk_NoWord : PySem.W.keepIn K (.ref fi_NoWord) = true)
    (rh_NotThere : PySem.W.hasDictIn K cl_NotThere = true)
    (rg_NotThere : PySem.W.findIn K (.ref cl_NotThere) "__getattribute__" = some (some (.builtin "BaseException.__getattribute__")))
    (rgg_NotThere : PySem.W.findIn K (.ref cl_NotThere) "__getattr__" = some none)
    (rc_NotThere : PySem.W.findIn K (.ref cl_NotThere) "__class__" = some (some (.builtin "object.__class__")))
    (rm_NotThere : PySem.W.mroIn K cl_NotThere (.type "object") = some true)
    (rv_NotThere : PySem.W.subIn K (.ref cl_NotThere) (.type "ValueError") = some true)
    (rp_NotThere_CrossError : PySem.W.subIn K (.ref cl_NotThere) (.ref cl_CrossError) = some true)
    (rp_NotThere_NoDeed : PySem.W.subIn K (.ref cl_NotThere) (.ref cl_NoDeed) = some false)
    (rp_NotThere_NoName : PySem.W.subIn K (.ref cl_NotThere) (.ref cl_NoName) = some false)
    (rp_NotThere_NoStep : PySem.W.subIn K (.ref cl_NotThere) (.ref cl_NoStep) = some false)
    (rp_NotThere_NoWorking : PySem.W.subIn K (.ref cl_NotThere) (.ref cl_NoWorking) = some false)
    (rp_NotThere_NoMatch : PySem.W.subIn K (.ref cl_NotThere) (.ref cl_NoMatch) = some false)
    (rp_NotThere_NotFilled : PySem.W.subIn K (.ref cl_NotThere) (.ref cl_NotFilled) = some false)
    (rp_NotThere_NoLine : PySem.W.subIn K (.ref cl_NotThere) (.ref cl_NoLine) = some false)
    (rp_NotThere_NotThere : PySem.W.subIn K (.ref cl_NotThere) (.ref cl_NotThere) = some true)
    (rp_NotThere_Twice : PySem.W.subIn K (.ref cl_NotThere) (.ref cl_Twice) = some false)
    (rp_NotThere_NoWord : PySem.W.subIn K (.ref cl_NotThere) (.ref cl_NoWord) = some false)
    (rp_NotThere_NoFloor : PySem.W.subIn K (.ref cl_NotThere) (.ref cl_NoFloor) = some false)
    (rp_NotThere_NoSheet : PySem.W.subIn K (.ref cl_NotThere) (.ref cl_NoSheet) = some false)
    (rl_NotThere : K.lookup cl_NotThere = some (excClassObj nm_NotThere qq_NotThere cl_NotThere NN_NotThere bs_NotThere [.ref cl_CrossError, .type "ValueError", .type "Exception", .type "BaseException", .type "object"] true sn_NotThere sub_NotThere ab_NotThere col_NotThere dd_NotThere m0_NotThere m1_NotThere m2_NotThere m3_NotThere m5_NotThere "ValueError.__new__"))
    (rs_NotThere : PySem.W.findIn K (.ref cl_NotThere) "__setattr__" = some (some (.builtin "object.__setattr__")))
    (ri_NotThere : PySem.W.findIn K (.ref cl_NotThere) "__init__" = some (some (.ref fi_NotThere)))
    (rt_NotThere : PySem.W.typeIn K (.ref fi_NotThere) = some (.type "function"))
    (rn_NotThere : PySem.W.findIn K (.ref cl_NotThere) "word" = some none)
    (rf_NotThere : K.lookup fi_NotThere = some ⟨foc_NotThere, fod_NotThere, .func (PySem.W.fnOf "__init__" "NotThere.__init__" (defArgs s_i_NotThere) (defBody s_i_NotThere) (defScope s_i_NotThere) .none fkV_NotThere fdc_NotThere fpm_NotThere fan_NotThere fcd_NotThere fct_NotThere), fsl_NotThere⟩)
    (re_NotThere : PySem.W.codeIn K fcd_NotThere "NotThere.__init__" = true)
    (rk_NotThere : PySem.W.keepIn K (.ref fi_NotThere) = true)
    (rh_Twice : PySem.W.hasDictIn K cl_Twice = true)
    (rg_Twice : PySem.W.findIn K (.ref cl_Twice) "__getattribute__" = some (some (.builtin "BaseException.__getattribute__")))
    (rgg_Twice : PySem.W.findIn K (.ref cl_Twice) "__getattr__" = some none)
    (rc_Twice : PySem.W.findIn K (.ref cl_Twice) "__class__" = some (some (.builtin "object.__class__")))
    (rm_Twice : PySem.W.mroIn K cl_Twice (.type "object") = some true)
    (rv_Twice : PySem.W.subIn K (.ref cl_Twice) (.type "ValueError") = some true)
    (rp_Twice_CrossError : PySem.W.subIn K (.ref cl_Twice) (.ref cl_CrossError) = some true)
    (rp_Twice_NoDeed : PySem.W.subIn K (.ref cl_Twice) (.ref cl_NoDeed) = some false)
    (rp_Twice_NoName : PySem.W.subIn K (.ref cl_Twice) (.ref cl_NoName) = some false)
    (rp_Twice_NoStep : PySem.W.subIn K (.ref cl_Twice) (.ref cl_NoStep) = some false)
    (rp_Twice_NoWorking : PySem.W.subIn K (.ref cl_Twice) (.ref cl_NoWorking) = some false)
    (rp_Twice_NoMatch : PySem.W.subIn K (.ref cl_Twice) (.ref cl_NoMatch) = some false)
    (rp_Twice_NotFilled : PySem.W.subIn K (.ref cl_Twice) (.ref cl_NotFilled) = some false)
    (rp_Twice_NoLine : PySem.W.subIn K (.ref cl_Twice) (.ref cl_NoLine) = some false)
    (rp_Twice_NotThere : PySem.W.subIn K (.ref cl_Twice) (.ref cl_NotThere) = some false)
    (rp_Twice_Twice : PySem.W.subIn K (.ref cl_Twice) (.ref cl_Twice) = some true)
    (rp_Twice_NoWord : PySem.W.subIn K (.ref cl_Twice) (.ref cl_NoWord) = some false)
    (rp_Twice_NoFloor : PySem.W.subIn K (.ref cl_Twice) (.ref cl_NoFloor) = some false)
    (rp_Twice_NoSheet : PySem.W.subIn K (.ref cl_Twice) (.ref cl_NoSheet) = some false)
    (rl_Twice : K.lookup cl_Twice = some (excClassObj nm_Twice qq_Twice cl_Twice NN_Twice bs_Twice [.ref cl_CrossError, .type "ValueError", .type "Exception", .type "BaseException", .type "object"] true sn_Twice sub_Twice ab_Twice col_Twice dd_Twice m0_Twice m1_Twice m2_Twice m3_Twice m5_Twice "ValueError.__new__"))
    (rs_Twice : PySem.W.findIn K (.ref cl_Twice) "__setattr__" = some (some (.builtin "object.__setattr__")))
    (ri_Twice : PySem.W.findIn K (.ref cl_Twice) "__init__" = some (some (.ref fi_Twice)))
    (rt_Twice : PySem.W.typeIn K (.ref fi_Twice) = some (.type "function"))
    (rn_Twice : PySem.W.findIn K (.ref cl_Twice) "word" = some none)
    (rf_Twice : K.lookup fi_Twice = some ⟨foc_Twice, fod_Twice, .func (PySem.W.fnOf "__init__" "Twice.__init__" (defArgs s_i_Twice) (defBody s_i_Twice) (defScope s_i_Twice) .none fkV_Twice fdc_Twice fpm_Twice fan_Twice fcd_Twice fct_Twice), fsl_Twice⟩)
    (re_Twice : PySem.W.codeIn K fcd_Twice "Twice.__init__" = true)
    (rk_Twice : PySem.W.keepIn K (.ref fi_Twice) = true)
    {cl_Book : Addr}
    (oca_Book : PySem.W.nsIn K mainGlobals "Book" = some (some (.ref cl_Book)))
    (opg_Book : PySem.W.plainGet K cl_Book Str.empty = true)
    (ohd_Book : PySem.W.hasDictIn K cl_Book = true)
    (opo_Book : PySem.W.plainOver K cl_Book = true)
    (osa_Book : PySem.W.findIn K (.ref cl_Book) "__setattr__" = some (some (.builtin "object.__setattr__")))
    (omk_Book : PySem.W.makesIn K cl_Book = true)
    (okc_Book : PySem.W.keepIn K (.ref cl_Book) = true)
    (ono_Book_worths : PySem.W.findIn K (.ref cl_Book) "worths" = some none)
    (ono_Book_row : PySem.W.findIn K (.ref cl_Book) "row" = some none)
    (ono_Book_bits : PySem.W.findIn K (.ref cl_Book) "bits" = some none)
    (a0 : PySem.W.findIn K (.ref cl_Book) "words" = some (some (.ref f0))) (i0 : PySem.W.isFn K (.ref f0) = true) (l0 : K.lookup f0 = some ⟨oc0, od0, .func (PySem.W.fnOf "words" "Book.words" (defArgs s_Book_words) (defBody s_Book_words) (defScope s_Book_words) .none kV0 dc0 pm0 an0 cd0 ct0), sl0⟩) (e0 : PySem.W.codeIn K cd0 "Book.words" = true) (k0 : PySem.W.keepIn K (.ref f0) = true)
    (a1 : PySem.W.nsIn K mainGlobals "is_word" = some (some (.ref f1))) (l1 : K.lookup f1 = some ⟨oc1, od1, .func (PySem.W.fnOf "is_word" "is_word" (defArgs s_is_word) (defBody s_is_word) (defScope s_is_word) .none kV1 dc1 pm1 an1 cd1 ct1), sl1⟩) (e1 : PySem.W.codeIn K cd1 "is_word" = true) (k1 : PySem.W.keepIn K (.ref f1) = true)
    (a2 : PySem.W.findIn K (.ref cl_Book) "need" = some (some (.ref f2))) (i2 : PySem.W.isFn K (.ref f2) = true) (l2 : K.lookup f2 = some ⟨oc2, od2, .func (PySem.W.fnOf "need" "Book.need" (defArgs s_Book_need) (defBody s_Book_need) (defScope s_Book_need) .none kV2 dc2 pm2 an2 cd2 ct2), sl2⟩) (e2 : PySem.W.codeIn K cd2 "Book.need" = true) (k2 : PySem.W.keepIn K (.ref f2) = true)
    (a3 : PySem.W.findIn K (.ref cl_Book) "worth" = some (some (.ref f3))) (i3 : PySem.W.isFn K (.ref f3) = true) (l3 : K.lookup f3 = some ⟨oc3, od3, .func (PySem.W.fnOf "worth" "Book.worth" (defArgs s_Book_worth) (defBody s_Book_worth) (defScope s_Book_worth) .none kV3 dc3 pm3 an3 cd3 ct3), sl3⟩) (e3 : PySem.W.codeIn K cd3 "Book.worth" = true) (k3 : PySem.W.keepIn K (.ref f3) = true)
    (a4 : PySem.W.nsIn K mainGlobals "_law_kinds" = some (some (.ref f4))) (l4 : K.lookup f4 = some ⟨oc4, od4, .func (PySem.W.fnOf "_law_kinds" "_law_kinds" (defArgs s__law_kinds) (defBody s__law_kinds) (defScope s__law_kinds) .none kV4 dc4 pm4 an4 cd4 ct4), sl4⟩) (e4 : PySem.W.codeIn K cd4 "_law_kinds" = true) (k4 : PySem.W.keepIn K (.ref f4) = true)
    (a5 : PySem.W.findIn K (.ref cl_Book) "turn_bits" = some (some (.ref f5))) (i5 : PySem.W.isFn K (.ref f5) = true) (l5 : K.lookup f5 = some ⟨oc5, od5, .func (PySem.W.fnOf "turn_bits" "Book.turn_bits" (defArgs s_Book_turn_bits) (defBody s_Book_turn_bits) (defScope s_Book_turn_bits) .none kV5 dc5 pm5 an5 cd5 ct5), sl5⟩) (e5 : PySem.W.codeIn K cd5 "Book.turn_bits" = true) (k5 : PySem.W.keepIn K (.ref f5) = true)
    
    {dT6 : Addr} {dgd6 : Option Addr} {dgn6 : Nat} {dgs6 : Array (Option Value)} {dk6_0 : Tok} (a6 : PySem.W.findIn K (.ref cl_Book) "put" = some (some (.ref f6))) (i6 : PySem.W.isFn K (.ref f6) = true) (l6 : K.lookup f6 = some ⟨oc6, od6, .func (PySem.W.fnOf "put" "Book.put" (defArgs s_Book_put) (defBody s_Book_put) (defScope s_Book_put) (.ref dT6) kV6 dc6 pm6 an6 cd6 ct6), sl6⟩) (dl6 : K.lookup dT6 = some ⟨.type "tuple", dgd6, .seq #[.int 0 dk6_0] dgn6, dgs6⟩) (e6 : PySem.W.codeIn K cd6 "Book.put" = true) (k6 : PySem.W.keepIn K (.ref f6) = true)
    (a7 : PySem.W.nsIn K mainGlobals "is_worth" = some (some (.ref f7))) (l7 : K.lookup f7 = some ⟨oc7, od7, .func (PySem.W.fnOf "is_worth" "is_worth" (defArgs s_is_worth) (defBody s_is_worth) (defScope s_is_worth) .none kV7 dc7 pm7 an7 cd7 ct7), sl7⟩) (e7 : PySem.W.codeIn K cd7 "is_worth" = true) (k7 : PySem.W.keepIn K (.ref f7) = true)
    (a8 : PySem.W.findIn K (.ref cl_Book) "has" = some (some (.ref f8))) (i8 : PySem.W.isFn K (.ref f8) = true) (l8 : K.lookup f8 = some ⟨oc8, od8, .func (PySem.W.fnOf "has" "Book.has" (defArgs s_Book_has) (defBody s_Book_has) (defScope s_Book_has) .none kV8 dc8 pm8 an8 cd8 ct8), sl8⟩) (e8 : PySem.W.codeIn K cd8 "Book.has" = true) (k8 : PySem.W.keepIn K (.ref f8) = true)
    (a9 : PySem.W.findIn K (.ref cl_Book) "__init__" = some (some (.ref f9))) (i9 : PySem.W.isFn K (.ref f9) = true) (l9 : K.lookup f9 = some ⟨oc9, od9, .func (PySem.W.fnOf "__init__" "Book.__init__" (defArgs s_Book___init__) (defBody s_Book___init__) (defScope s_Book___init__) .none kV9 dc9 pm9 an9 cd9 ct9), sl9⟩) (e9 : PySem.W.codeIn K cd9 "Book.__init__" = true) (k9 : PySem.W.keepIn K (.ref f9) = true)
    (a10 : PySem.W.nsIn K mainGlobals "read_book" = some (some (.ref f10))) (l10 : K.lookup f10 = some ⟨oc10, od10, .func (PySem.W.fnOf "read_book" "read_book" (defArgs s_read_book) (defBody s_read_book) (defScope s_read_book) .none kV10 dc10 pm10 an10 cd10 ct10), sl10⟩) (e10 : PySem.W.codeIn K cd10 "read_book" = true) (k10 : PySem.W.keepIn K (.ref f10) = true)
    (a11 : PySem.W.nsIn K mainGlobals "_law_at" = some (some (.ref f11))) (l11 : K.lookup f11 = some ⟨oc11, od11, .func (PySem.W.fnOf "_law_at" "_law_at" (defArgs s__law_at) (defBody s__law_at) (defScope s__law_at) .none kV11 dc11 pm11 an11 cd11 ct11), sl11⟩) (e11 : PySem.W.codeIn K cd11 "_law_at" = true) (k11 : PySem.W.keepIn K (.ref f11) = true)
    (a12 : PySem.W.nsIn K mainGlobals "_law_cell_at" = some (some (.ref f12))) (l12 : K.lookup f12 = some ⟨oc12, od12, .func (PySem.W.fnOf "_law_cell_at" "_law_cell_at" (defArgs s__law_cell_at) (defBody s__law_cell_at) (defScope s__law_cell_at) .none kV12 dc12 pm12 an12 cd12 ct12), sl12⟩) (e12 : PySem.W.codeIn K cd12 "_law_cell_at" = true) (k12 : PySem.W.keepIn K (.ref f12) = true)
    (a13 : PySem.W.nsIn K mainGlobals "_law_is_line" = some (some (.ref f13))) (l13 : K.lookup f13 = some ⟨oc13, od13, .func (PySem.W.fnOf "_law_is_line" "_law_is_line" (defArgs s__law_is_line) (defBody s__law_is_line) (defScope s__law_is_line) .none kV13 dc13 pm13 an13 cd13 ct13), sl13⟩) (e13 : PySem.W.codeIn K cd13 "_law_is_line" = true) (k13 : PySem.W.keepIn K (.ref f13) = true)
    (a14 : PySem.W.nsIn K mainGlobals "_law_due" = some (some (.ref f14))) (l14 : K.lookup f14 = some ⟨oc14, od14, .func (PySem.W.fnOf "_law_due" "_law_due" (defArgs s__law_due) (defBody s__law_due) (defScope s__law_due) .none kV14 dc14 pm14 an14 cd14 ct14), sl14⟩) (e14 : PySem.W.codeIn K cd14 "_law_due" = true) (k14 : PySem.W.keepIn K (.ref f14) = true)
    (a15 : PySem.W.nsIn K mainGlobals "_law_word" = some (some (.ref f15))) (l15 : K.lookup f15 = some ⟨oc15, od15, .func (PySem.W.fnOf "_law_word" "_law_word" (defArgs s__law_word) (defBody s__law_word) (defScope s__law_word) .none kV15 dc15 pm15 an15 cd15 ct15), sl15⟩) (e15 : PySem.W.codeIn K cd15 "_law_word" = true) (k15 : PySem.W.keepIn K (.ref f15) = true)
    (a16 : PySem.W.nsIn K mainGlobals "_law_odd" = some (some (.ref f16))) (l16 : K.lookup f16 = some ⟨oc16, od16, .func (PySem.W.fnOf "_law_odd" "_law_odd" (defArgs s__law_odd) (defBody s__law_odd) (defScope s__law_odd) .none kV16 dc16 pm16 an16 cd16 ct16), sl16⟩) (e16 : PySem.W.codeIn K cd16 "_law_odd" = true) (k16 : PySem.W.keepIn K (.ref f16) = true)
    (a17 : PySem.W.nsIn K mainGlobals "_law_random" = some (some (.ref f17))) (l17 : K.lookup f17 = some ⟨oc17, od17, .func (PySem.W.fnOf "_law_random" "_law_random" (defArgs s__law_random) (defBody s__law_random) (defScope s__law_random) .none kV17 dc17 pm17 an17 cd17 ct17), sl17⟩) (e17 : PySem.W.codeIn K cd17 "_law_random" = true) (k17 : PySem.W.keepIn K (.ref f17) = true)
    (a18 : PySem.W.nsIn K mainGlobals "_law_line" = some (some (.ref f18))) (l18 : K.lookup f18 = some ⟨oc18, od18, .func (PySem.W.fnOf "_law_line" "_law_line" (defArgs s__law_line) (defBody s__law_line) (defScope s__law_line) .none kV18 dc18 pm18 an18 cd18 ct18), sl18⟩) (e18 : PySem.W.codeIn K cd18 "_law_line" = true) (k18 : PySem.W.keepIn K (.ref f18) = true)
    (a19 : PySem.W.nsIn K mainGlobals "_law_lines" = some (some (.ref f19))) (l19 : K.lookup f19 = some ⟨oc19, od19, .func (PySem.W.fnOf "_law_lines" "_law_lines" (defArgs s__law_lines) (defBody s__law_lines) (defScope s__law_lines) .none kV19 dc19 pm19 an19 cd19 ct19), sl19⟩) (e19 : PySem.W.codeIn K cd19 "_law_lines" = true) (k19 : PySem.W.keepIn K (.ref f19) = true)
    (a20 : PySem.W.nsIn K mainGlobals "law" = some (some (.ref f20))) (l20 : K.lookup f20 = some ⟨oc20, od20, .func (PySem.W.fnOf "law" "law" (defArgs s_law) (defBody s_law) (defScope s_law) .none kV20 dc20 pm20 an20 cd20 ct20), sl20⟩) (e20 : PySem.W.codeIn K cd20 "law" = true) (k20 : PySem.W.keepIn K (.ref f20) = true)
    (b0 : PySem.W.nsIn K mainGlobals "ValueError" = some none)
    (b1 : PySem.W.nsIn K mainGlobals "all" = some none)
    (b2 : PySem.W.nsIn K mainGlobals "bool" = some none)
    (b3 : PySem.W.nsIn K mainGlobals "enumerate" = some none)
    (b4 : PySem.W.nsIn K mainGlobals "int" = some none)
    (b5 : PySem.W.nsIn K mainGlobals "isinstance" = some none)
    (b6 : PySem.W.nsIn K mainGlobals "len" = some none)
    (b7 : PySem.W.nsIn K mainGlobals "range" = some none)
    (b8 : PySem.W.nsIn K mainGlobals "sorted" = some none)
    (b9 : PySem.W.nsIn K mainGlobals "str" = some none)
    (g0 : PySem.W.nsIn K mainGlobals "FIGURES" = some (some (.str "0123456789" tk0)))
    (g1 : PySem.W.nsIn K mainGlobals "LETTERS" = some (some (.str "abcdefghijklmnopqrstuvwxyz" tk1)))
    (g2 : PySem.W.nsIn K mainGlobals "LONGEST" = some (some (.int 9 tk2))) : Facts K mg where
  x_NoLine := ⟨cl_NoLine, fi_NoLine, _, ⟨PySem.W.mg_of X G ca_NoLine, ck_NoLine, ce_NoLine, ct_NoLine, ci_NoLine, cs_NoLine⟩, oex_of (show ClsN K mg "NoLine" cl_NoLine from ⟨PySem.W.mg_of X G ca_NoLine, ck_NoLine, ce_NoLine, ct_NoLine, ci_NoLine, cs_NoLine⟩) rl_NoLine (show PySem.HandSPX.refsVE [.type "ValueError", .type "Exception", .type "BaseException", .type "object"] = true from by decide +kernel) rs_NoLine, ri_NoLine, rt_NoLine, rn_NoLine, fun_mk rf_NoLine re_NoLine rk_NoLine⟩
  x_NoWord := ⟨cl_NoWord, fi_NoWord, _, ⟨PySem.W.mg_of X G ca_NoWord, ck_NoWord, ce_NoWord, ct_NoWord, ci_NoWord, cs_NoWord⟩, oex_of (show ClsN K mg "NoWord" cl_NoWord from ⟨PySem.W.mg_of X G ca_NoWord, ck_NoWord, ce_NoWord, ct_NoWord, ci_NoWord, cs_NoWord⟩) rl_NoWord (show PySem.HandSPX.refsVE [.type "ValueError", .type "Exception", .type "BaseException", .type "object"] = true from by decide +kernel) rs_NoWord, ri_NoWord, rt_NoWord, rn_NoWord, fun_mk rf_NoWord re_NoWord rk_NoWord⟩
  x_NotThere := ⟨cl_NotThere, fi_NotThere, _, ⟨PySem.W.mg_of X G ca_NotThere, ck_NotThere, ce_NotThere, ct_NotThere, ci_NotThere, cs_NotThere⟩, oex_of (show ClsN K mg "NotThere" cl_NotThere from ⟨PySem.W.mg_of X G ca_NotThere, ck_NotThere, ce_NotThere, ct_NotThere, ci_NotThere, cs_NotThere⟩) rl_NotThere (show PySem.HandSPX.refsVE [.type "ValueError", .type "Exception", .type "BaseException", .type "object"] = true from by decide +kernel) rs_NotThere, ri_NotThere, rt_NotThere, rn_NotThere, fun_mk rf_NotThere re_NotThere rk_NotThere⟩
  x_Twice := ⟨cl_Twice, fi_Twice, _, ⟨PySem.W.mg_of X G ca_Twice, ck_Twice, ce_Twice, ct_Twice, ci_Twice, cs_Twice⟩, oex_of (show ClsN K mg "Twice" cl_Twice from ⟨PySem.W.mg_of X G ca_Twice, ck_Twice, ce_Twice, ct_Twice, ci_Twice, cs_Twice⟩) rl_Twice (show PySem.HandSPX.refsVE [.type "ValueError", .type "Exception", .type "BaseException", .type "object"] = true from by decide +kernel) rs_Twice, ri_Twice, rt_Twice, rn_Twice, fun_mk rf_Twice re_Twice rk_Twice⟩
  ex_0 := ⟨cl_CrossError, PySem.W.mg_of X G ca_CrossError, (exTbl_cons (show ClsN K mg "NoLine" cl_NoLine from ⟨PySem.W.mg_of X G ca_NoLine, ck_NoLine, ce_NoLine, ct_NoLine, ci_NoLine, cs_NoLine⟩) (exm_of (show ClsN K mg "CrossError" cl_CrossError from ⟨PySem.W.mg_of X G ca_CrossError, ck_CrossError, ce_CrossError, ct_CrossError, ci_CrossError, cs_CrossError⟩) rp_NoLine_CrossError) (exTbl_cons (show ClsN K mg "NoWord" cl_NoWord from ⟨PySem.W.mg_of X G ca_NoWord, ck_NoWord, ce_NoWord, ct_NoWord, ci_NoWord, cs_NoWord⟩) (exm_of (show ClsN K mg "CrossError" cl_CrossError from ⟨PySem.W.mg_of X G ca_CrossError, ck_CrossError, ce_CrossError, ct_CrossError, ci_CrossError, cs_CrossError⟩) rp_NoWord_CrossError) (exTbl_cons (show ClsN K mg "NotThere" cl_NotThere from ⟨PySem.W.mg_of X G ca_NotThere, ck_NotThere, ce_NotThere, ct_NotThere, ci_NotThere, cs_NotThere⟩) (exm_of (show ClsN K mg "CrossError" cl_CrossError from ⟨PySem.W.mg_of X G ca_CrossError, ck_CrossError, ce_CrossError, ct_CrossError, ci_CrossError, cs_CrossError⟩) rp_NotThere_CrossError) (exTbl_cons (show ClsN K mg "Twice" cl_Twice from ⟨PySem.W.mg_of X G ca_Twice, ck_Twice, ce_Twice, ct_Twice, ci_Twice, cs_Twice⟩) (exm_of (show ClsN K mg "CrossError" cl_CrossError from ⟨PySem.W.mg_of X G ca_CrossError, ck_CrossError, ce_CrossError, ct_CrossError, ci_CrossError, cs_CrossError⟩) rp_Twice_CrossError) exTbl_nil))))⟩
  is_0 := (isTbl_cons (show ClsN K mg "NoLine" cl_NoLine from ⟨PySem.W.mg_of X G ca_NoLine, ck_NoLine, ce_NoLine, ct_NoLine, ci_NoLine, cs_NoLine⟩) (show ClsR K cl_NoLine from ⟨rh_NoLine, rg_NoLine, rgg_NoLine, rc_NoLine, rm_NoLine, cspG, ctkG⟩) (kit_t (kit_ve rv_NoLine)) (isTbl_cons (show ClsN K mg "NoWord" cl_NoWord from ⟨PySem.W.mg_of X G ca_NoWord, ck_NoWord, ce_NoWord, ct_NoWord, ci_NoWord, cs_NoWord⟩) (show ClsR K cl_NoWord from ⟨rh_NoWord, rg_NoWord, rgg_NoWord, rc_NoWord, rm_NoWord, cspG, ctkG⟩) (kit_t (kit_ve rv_NoWord)) (isTbl_cons (show ClsN K mg "NotThere" cl_NotThere from ⟨PySem.W.mg_of X G ca_NotThere, ck_NotThere, ce_NotThere, ct_NotThere, ci_NotThere, cs_NotThere⟩) (show ClsR K cl_NotThere from ⟨rh_NotThere, rg_NotThere, rgg_NotThere, rc_NotThere, rm_NotThere, cspG, ctkG⟩) (kit_t (kit_ve rv_NotThere)) (isTbl_cons (show ClsN K mg "Twice" cl_Twice from ⟨PySem.W.mg_of X G ca_Twice, ck_Twice, ce_Twice, ct_Twice, ci_Twice, cs_Twice⟩) (show ClsR K cl_Twice from ⟨rh_Twice, rg_Twice, rgg_Twice, rc_Twice, rm_Twice, cspG, ctkG⟩) (kit_t (kit_ve rv_Twice)) isTbl_nil))))
  is_1 := ⟨cl_NoDeed, PySem.W.mg_of X G ca_NoDeed, (isTbl_cons (show ClsN K mg "NoLine" cl_NoLine from ⟨PySem.W.mg_of X G ca_NoLine, ck_NoLine, ce_NoLine, ct_NoLine, ci_NoLine, cs_NoLine⟩) (show ClsR K cl_NoLine from ⟨rh_NoLine, rg_NoLine, rgg_NoLine, rc_NoLine, rm_NoLine, cspG, ctkG⟩) (kit_f (kit_of (show ClsN K mg "NoDeed" cl_NoDeed from ⟨PySem.W.mg_of X G ca_NoDeed, ck_NoDeed, ce_NoDeed, ct_NoDeed, ci_NoDeed, cs_NoDeed⟩) rp_NoLine_NoDeed) kit_nil) (isTbl_cons (show ClsN K mg "NoWord" cl_NoWord from ⟨PySem.W.mg_of X G ca_NoWord, ck_NoWord, ce_NoWord, ct_NoWord, ci_NoWord, cs_NoWord⟩) (show ClsR K cl_NoWord from ⟨rh_NoWord, rg_NoWord, rgg_NoWord, rc_NoWord, rm_NoWord, cspG, ctkG⟩) (kit_f (kit_of (show ClsN K mg "NoDeed" cl_NoDeed from ⟨PySem.W.mg_of X G ca_NoDeed, ck_NoDeed, ce_NoDeed, ct_NoDeed, ci_NoDeed, cs_NoDeed⟩) rp_NoWord_NoDeed) kit_nil) (isTbl_cons (show ClsN K mg "NotThere" cl_NotThere from ⟨PySem.W.mg_of X G ca_NotThere, ck_NotThere, ce_NotThere, ct_NotThere, ci_NotThere, cs_NotThere⟩) (show ClsR K cl_NotThere from ⟨rh_NotThere, rg_NotThere, rgg_NotThere, rc_NotThere, rm_NotThere, cspG, ctkG⟩) (kit_f (kit_of (show ClsN K mg "NoDeed" cl_NoDeed from ⟨PySem.W.mg_of X G ca_NoDeed, ck_NoDeed, ce_NoDeed, ct_NoDeed, ci_NoDeed, cs_NoDeed⟩) rp_NotThere_NoDeed) kit_nil) (isTbl_cons (show ClsN K mg "Twice" cl_Twice from ⟨PySem.W.mg_of X G ca_Twice, ck_Twice, ce_Twice, ct_Twice, ci_Twice, cs_Twice⟩) (show ClsR K cl_Twice from ⟨rh_Twice, rg_Twice, rgg_Twice, rc_Twice, rm_Twice, cspG, ctkG⟩) (kit_f (kit_of (show ClsN K mg "NoDeed" cl_NoDeed from ⟨PySem.W.mg_of X G ca_NoDeed, ck_NoDeed, ce_NoDeed, ct_NoDeed, ci_NoDeed, cs_NoDeed⟩) rp_Twice_NoDeed) kit_nil) isTbl_nil))))⟩
  is_2 := ⟨cl_NoName, PySem.W.mg_of X G ca_NoName, (isTbl_cons (show ClsN K mg "NoLine" cl_NoLine from ⟨PySem.W.mg_of X G ca_NoLine, ck_NoLine, ce_NoLine, ct_NoLine, ci_NoLine, cs_NoLine⟩) (show ClsR K cl_NoLine from ⟨rh_NoLine, rg_NoLine, rgg_NoLine, rc_NoLine, rm_NoLine, cspG, ctkG⟩) (kit_f (kit_of (show ClsN K mg "NoName" cl_NoName from ⟨PySem.W.mg_of X G ca_NoName, ck_NoName, ce_NoName, ct_NoName, ci_NoName, cs_NoName⟩) rp_NoLine_NoName) kit_nil) (isTbl_cons (show ClsN K mg "NoWord" cl_NoWord from ⟨PySem.W.mg_of X G ca_NoWord, ck_NoWord, ce_NoWord, ct_NoWord, ci_NoWord, cs_NoWord⟩) (show ClsR K cl_NoWord from ⟨rh_NoWord, rg_NoWord, rgg_NoWord, rc_NoWord, rm_NoWord, cspG, ctkG⟩) (kit_f (kit_of (show ClsN K mg "NoName" cl_NoName from ⟨PySem.W.mg_of X G ca_NoName, ck_NoName, ce_NoName, ct_NoName, ci_NoName, cs_NoName⟩) rp_NoWord_NoName) kit_nil) (isTbl_cons (show ClsN K mg "NotThere" cl_NotThere from ⟨PySem.W.mg_of X G ca_NotThere, ck_NotThere, ce_NotThere, ct_NotThere, ci_NotThere, cs_NotThere⟩) (show ClsR K cl_NotThere from ⟨rh_NotThere, rg_NotThere, rgg_NotThere, rc_NotThere, rm_NotThere, cspG, ctkG⟩) (kit_f (kit_of (show ClsN K mg "NoName" cl_NoName from ⟨PySem.W.mg_of X G ca_NoName, ck_NoName, ce_NoName, ct_NoName, ci_NoName, cs_NoName⟩) rp_NotThere_NoName) kit_nil) (isTbl_cons (show ClsN K mg "Twice" cl_Twice from ⟨PySem.W.mg_of X G ca_Twice, ck_Twice, ce_Twice, ct_Twice, ci_Twice, cs_Twice⟩) (show ClsR K cl_Twice from ⟨rh_Twice, rg_Twice, rgg_Twice, rc_Twice, rm_Twice, cspG, ctkG⟩) (kit_f (kit_of (show ClsN K mg "NoName" cl_NoName from ⟨PySem.W.mg_of X G ca_NoName, ck_NoName, ce_NoName, ct_NoName, ci_NoName, cs_NoName⟩) rp_Twice_NoName) kit_nil) isTbl_nil))))⟩
  is_3 := ⟨cl_NoStep, PySem.W.mg_of X G ca_NoStep, (isTbl_cons (show ClsN K mg "NoLine" cl_NoLine from ⟨PySem.W.mg_of X G ca_NoLine, ck_NoLine, ce_NoLine, ct_NoLine, ci_NoLine, cs_NoLine⟩) (show ClsR K cl_NoLine from ⟨rh_NoLine, rg_NoLine, rgg_NoLine, rc_NoLine, rm_NoLine, cspG, ctkG⟩) (kit_f (kit_of (show ClsN K mg "NoStep" cl_NoStep from ⟨PySem.W.mg_of X G ca_NoStep, ck_NoStep, ce_NoStep, ct_NoStep, ci_NoStep, cs_NoStep⟩) rp_NoLine_NoStep) kit_nil) (isTbl_cons (show ClsN K mg "NoWord" cl_NoWord from ⟨PySem.W.mg_of X G ca_NoWord, ck_NoWord, ce_NoWord, ct_NoWord, ci_NoWord, cs_NoWord⟩) (show ClsR K cl_NoWord from ⟨rh_NoWord, rg_NoWord, rgg_NoWord, rc_NoWord, rm_NoWord, cspG, ctkG⟩) (kit_f (kit_of (show ClsN K mg "NoStep" cl_NoStep from ⟨PySem.W.mg_of X G ca_NoStep, ck_NoStep, ce_NoStep, ct_NoStep, ci_NoStep, cs_NoStep⟩) rp_NoWord_NoStep) kit_nil) (isTbl_cons (show ClsN K mg "NotThere" cl_NotThere from ⟨PySem.W.mg_of X G ca_NotThere, ck_NotThere, ce_NotThere, ct_NotThere, ci_NotThere, cs_NotThere⟩) (show ClsR K cl_NotThere from ⟨rh_NotThere, rg_NotThere, rgg_NotThere, rc_NotThere, rm_NotThere, cspG, ctkG⟩) (kit_f (kit_of (show ClsN K mg "NoStep" cl_NoStep from ⟨PySem.W.mg_of X G ca_NoStep, ck_NoStep, ce_NoStep, ct_NoStep, ci_NoStep, cs_NoStep⟩) rp_NotThere_NoStep) kit_nil) (isTbl_cons (show ClsN K mg "Twice" cl_Twice from ⟨PySem.W.mg_of X G ca_Twice, ck_Twice, ce_Twice, ct_Twice, ci_Twice, cs_Twice⟩) (show ClsR K cl_Twice from ⟨rh_Twice, rg_Twice, rgg_Twice, rc_Twice, rm_Twice, cspG, ctkG⟩) (kit_f (kit_of (show ClsN K mg "NoStep" cl_NoStep from ⟨PySem.W.mg_of X G ca_NoStep, ck_NoStep, ce_NoStep, ct_NoStep, ci_NoStep, cs_NoStep⟩) rp_Twice_NoStep) kit_nil) isTbl_nil))))⟩
  is_4 := ⟨cl_NoWorking, PySem.W.mg_of X G ca_NoWorking, (isTbl_cons (show ClsN K mg "NoLine" cl_NoLine from ⟨PySem.W.mg_of X G ca_NoLine, ck_NoLine, ce_NoLine, ct_NoLine, ci_NoLine, cs_NoLine⟩) (show ClsR K cl_NoLine from ⟨rh_NoLine, rg_NoLine, rgg_NoLine, rc_NoLine, rm_NoLine, cspG, ctkG⟩) (kit_f (kit_of (show ClsN K mg "NoWorking" cl_NoWorking from ⟨PySem.W.mg_of X G ca_NoWorking, ck_NoWorking, ce_NoWorking, ct_NoWorking, ci_NoWorking, cs_NoWorking⟩) rp_NoLine_NoWorking) kit_nil) (isTbl_cons (show ClsN K mg "NoWord" cl_NoWord from ⟨PySem.W.mg_of X G ca_NoWord, ck_NoWord, ce_NoWord, ct_NoWord, ci_NoWord, cs_NoWord⟩) (show ClsR K cl_NoWord from ⟨rh_NoWord, rg_NoWord, rgg_NoWord, rc_NoWord, rm_NoWord, cspG, ctkG⟩) (kit_f (kit_of (show ClsN K mg "NoWorking" cl_NoWorking from ⟨PySem.W.mg_of X G ca_NoWorking, ck_NoWorking, ce_NoWorking, ct_NoWorking, ci_NoWorking, cs_NoWorking⟩) rp_NoWord_NoWorking) kit_nil) (isTbl_cons (show ClsN K mg "NotThere" cl_NotThere from ⟨PySem.W.mg_of X G ca_NotThere, ck_NotThere, ce_NotThere, ct_NotThere, ci_NotThere, cs_NotThere⟩) (show ClsR K cl_NotThere from ⟨rh_NotThere, rg_NotThere, rgg_NotThere, rc_NotThere, rm_NotThere, cspG, ctkG⟩) (kit_f (kit_of (show ClsN K mg "NoWorking" cl_NoWorking from ⟨PySem.W.mg_of X G ca_NoWorking, ck_NoWorking, ce_NoWorking, ct_NoWorking, ci_NoWorking, cs_NoWorking⟩) rp_NotThere_NoWorking) kit_nil) (isTbl_cons (show ClsN K mg "Twice" cl_Twice from ⟨PySem.W.mg_of X G ca_Twice, ck_Twice, ce_Twice, ct_Twice, ci_Twice, cs_Twice⟩) (show ClsR K cl_Twice from ⟨rh_Twice, rg_Twice, rgg_Twice, rc_Twice, rm_Twice, cspG, ctkG⟩) (kit_f (kit_of (show ClsN K mg "NoWorking" cl_NoWorking from ⟨PySem.W.mg_of X G ca_NoWorking, ck_NoWorking, ce_NoWorking, ct_NoWorking, ci_NoWorking, cs_NoWorking⟩) rp_Twice_NoWorking) kit_nil) isTbl_nil))))⟩
  is_5 := ⟨cl_NoMatch, PySem.W.mg_of X G ca_NoMatch, (isTbl_cons (show ClsN K mg "NoLine" cl_NoLine from ⟨PySem.W.mg_of X G ca_NoLine, ck_NoLine, ce_NoLine, ct_NoLine, ci_NoLine, cs_NoLine⟩) (show ClsR K cl_NoLine from ⟨rh_NoLine, rg_NoLine, rgg_NoLine, rc_NoLine, rm_NoLine, cspG, ctkG⟩) (kit_f (kit_of (show ClsN K mg "NoMatch" cl_NoMatch from ⟨PySem.W.mg_of X G ca_NoMatch, ck_NoMatch, ce_NoMatch, ct_NoMatch, ci_NoMatch, cs_NoMatch⟩) rp_NoLine_NoMatch) kit_nil) (isTbl_cons (show ClsN K mg "NoWord" cl_NoWord from ⟨PySem.W.mg_of X G ca_NoWord, ck_NoWord, ce_NoWord, ct_NoWord, ci_NoWord, cs_NoWord⟩) (show ClsR K cl_NoWord from ⟨rh_NoWord, rg_NoWord, rgg_NoWord, rc_NoWord, rm_NoWord, cspG, ctkG⟩) (kit_f (kit_of (show ClsN K mg "NoMatch" cl_NoMatch from ⟨PySem.W.mg_of X G ca_NoMatch, ck_NoMatch, ce_NoMatch, ct_NoMatch, ci_NoMatch, cs_NoMatch⟩) rp_NoWord_NoMatch) kit_nil) (isTbl_cons (show ClsN K mg "NotThere" cl_NotThere from ⟨PySem.W.mg_of X G ca_NotThere, ck_NotThere, ce_NotThere, ct_NotThere, ci_NotThere, cs_NotThere⟩) (show ClsR K cl_NotThere from ⟨rh_NotThere, rg_NotThere, rgg_NotThere, rc_NotThere, rm_NotThere, cspG, ctkG⟩) (kit_f (kit_of (show ClsN K mg "NoMatch" cl_NoMatch from ⟨PySem.W.mg_of X G ca_NoMatch, ck_NoMatch, ce_NoMatch, ct_NoMatch, ci_NoMatch, cs_NoMatch⟩) rp_NotThere_NoMatch) kit_nil) (isTbl_cons (show ClsN K mg "Twice" cl_Twice from ⟨PySem.W.mg_of X G ca_Twice, ck_Twice, ce_Twice, ct_Twice, ci_Twice, cs_Twice⟩) (show ClsR K cl_Twice from ⟨rh_Twice, rg_Twice, rgg_Twice, rc_Twice, rm_Twice, cspG, ctkG⟩) (kit_f (kit_of (show ClsN K mg "NoMatch" cl_NoMatch from ⟨PySem.W.mg_of X G ca_NoMatch, ck_NoMatch, ce_NoMatch, ct_NoMatch, ci_NoMatch, cs_NoMatch⟩) rp_Twice_NoMatch) kit_nil) isTbl_nil))))⟩
  is_6 := ⟨cl_NotFilled, PySem.W.mg_of X G ca_NotFilled, (isTbl_cons (show ClsN K mg "NoLine" cl_NoLine from ⟨PySem.W.mg_of X G ca_NoLine, ck_NoLine, ce_NoLine, ct_NoLine, ci_NoLine, cs_NoLine⟩) (show ClsR K cl_NoLine from ⟨rh_NoLine, rg_NoLine, rgg_NoLine, rc_NoLine, rm_NoLine, cspG, ctkG⟩) (kit_f (kit_of (show ClsN K mg "NotFilled" cl_NotFilled from ⟨PySem.W.mg_of X G ca_NotFilled, ck_NotFilled, ce_NotFilled, ct_NotFilled, ci_NotFilled, cs_NotFilled⟩) rp_NoLine_NotFilled) kit_nil) (isTbl_cons (show ClsN K mg "NoWord" cl_NoWord from ⟨PySem.W.mg_of X G ca_NoWord, ck_NoWord, ce_NoWord, ct_NoWord, ci_NoWord, cs_NoWord⟩) (show ClsR K cl_NoWord from ⟨rh_NoWord, rg_NoWord, rgg_NoWord, rc_NoWord, rm_NoWord, cspG, ctkG⟩) (kit_f (kit_of (show ClsN K mg "NotFilled" cl_NotFilled from ⟨PySem.W.mg_of X G ca_NotFilled, ck_NotFilled, ce_NotFilled, ct_NotFilled, ci_NotFilled, cs_NotFilled⟩) rp_NoWord_NotFilled) kit_nil) (isTbl_cons (show ClsN K mg "NotThere" cl_NotThere from ⟨PySem.W.mg_of X G ca_NotThere, ck_NotThere, ce_NotThere, ct_NotThere, ci_NotThere, cs_NotThere⟩) (show ClsR K cl_NotThere from ⟨rh_NotThere, rg_NotThere, rgg_NotThere, rc_NotThere, rm_NotThere, cspG, ctkG⟩) (kit_f (kit_of (show ClsN K mg "NotFilled" cl_NotFilled from ⟨PySem.W.mg_of X G ca_NotFilled, ck_NotFilled, ce_NotFilled, ct_NotFilled, ci_NotFilled, cs_NotFilled⟩) rp_NotThere_NotFilled) kit_nil) (isTbl_cons (show ClsN K mg "Twice" cl_Twice from ⟨PySem.W.mg_of X G ca_Twice, ck_Twice, ce_Twice, ct_Twice, ci_Twice, cs_Twice⟩) (show ClsR K cl_Twice from ⟨rh_Twice, rg_Twice, rgg_Twice, rc_Twice, rm_Twice, cspG, ctkG⟩) (kit_f (kit_of (show ClsN K mg "NotFilled" cl_NotFilled from ⟨PySem.W.mg_of X G ca_NotFilled, ck_NotFilled, ce_NotFilled, ct_NotFilled, ci_NotFilled, cs_NotFilled⟩) rp_Twice_NotFilled) kit_nil) isTbl_nil))))⟩
  is_7 := ⟨cl_NoLine, PySem.W.mg_of X G ca_NoLine, (isTbl_cons (show ClsN K mg "NoLine" cl_NoLine from ⟨PySem.W.mg_of X G ca_NoLine, ck_NoLine, ce_NoLine, ct_NoLine, ci_NoLine, cs_NoLine⟩) (show ClsR K cl_NoLine from ⟨rh_NoLine, rg_NoLine, rgg_NoLine, rc_NoLine, rm_NoLine, cspG, ctkG⟩) (kit_t (kit_of (show ClsN K mg "NoLine" cl_NoLine from ⟨PySem.W.mg_of X G ca_NoLine, ck_NoLine, ce_NoLine, ct_NoLine, ci_NoLine, cs_NoLine⟩) rp_NoLine_NoLine)) (isTbl_cons (show ClsN K mg "NoWord" cl_NoWord from ⟨PySem.W.mg_of X G ca_NoWord, ck_NoWord, ce_NoWord, ct_NoWord, ci_NoWord, cs_NoWord⟩) (show ClsR K cl_NoWord from ⟨rh_NoWord, rg_NoWord, rgg_NoWord, rc_NoWord, rm_NoWord, cspG, ctkG⟩) (kit_f (kit_of (show ClsN K mg "NoLine" cl_NoLine from ⟨PySem.W.mg_of X G ca_NoLine, ck_NoLine, ce_NoLine, ct_NoLine, ci_NoLine, cs_NoLine⟩) rp_NoWord_NoLine) kit_nil) (isTbl_cons (show ClsN K mg "NotThere" cl_NotThere from ⟨PySem.W.mg_of X G ca_NotThere, ck_NotThere, ce_NotThere, ct_NotThere, ci_NotThere, cs_NotThere⟩) (show ClsR K cl_NotThere from ⟨rh_NotThere, rg_NotThere, rgg_NotThere, rc_NotThere, rm_NotThere, cspG, ctkG⟩) (kit_f (kit_of (show ClsN K mg "NoLine" cl_NoLine from ⟨PySem.W.mg_of X G ca_NoLine, ck_NoLine, ce_NoLine, ct_NoLine, ci_NoLine, cs_NoLine⟩) rp_NotThere_NoLine) kit_nil) (isTbl_cons (show ClsN K mg "Twice" cl_Twice from ⟨PySem.W.mg_of X G ca_Twice, ck_Twice, ce_Twice, ct_Twice, ci_Twice, cs_Twice⟩) (show ClsR K cl_Twice from ⟨rh_Twice, rg_Twice, rgg_Twice, rc_Twice, rm_Twice, cspG, ctkG⟩) (kit_f (kit_of (show ClsN K mg "NoLine" cl_NoLine from ⟨PySem.W.mg_of X G ca_NoLine, ck_NoLine, ce_NoLine, ct_NoLine, ci_NoLine, cs_NoLine⟩) rp_Twice_NoLine) kit_nil) isTbl_nil))))⟩
  is_8 := ⟨cl_NotThere, PySem.W.mg_of X G ca_NotThere, (isTbl_cons (show ClsN K mg "NoLine" cl_NoLine from ⟨PySem.W.mg_of X G ca_NoLine, ck_NoLine, ce_NoLine, ct_NoLine, ci_NoLine, cs_NoLine⟩) (show ClsR K cl_NoLine from ⟨rh_NoLine, rg_NoLine, rgg_NoLine, rc_NoLine, rm_NoLine, cspG, ctkG⟩) (kit_f (kit_of (show ClsN K mg "NotThere" cl_NotThere from ⟨PySem.W.mg_of X G ca_NotThere, ck_NotThere, ce_NotThere, ct_NotThere, ci_NotThere, cs_NotThere⟩) rp_NoLine_NotThere) kit_nil) (isTbl_cons (show ClsN K mg "NoWord" cl_NoWord from ⟨PySem.W.mg_of X G ca_NoWord, ck_NoWord, ce_NoWord, ct_NoWord, ci_NoWord, cs_NoWord⟩) (show ClsR K cl_NoWord from ⟨rh_NoWord, rg_NoWord, rgg_NoWord, rc_NoWord, rm_NoWord, cspG, ctkG⟩) (kit_f (kit_of (show ClsN K mg "NotThere" cl_NotThere from ⟨PySem.W.mg_of X G ca_NotThere, ck_NotThere, ce_NotThere, ct_NotThere, ci_NotThere, cs_NotThere⟩) rp_NoWord_NotThere) kit_nil) (isTbl_cons (show ClsN K mg "NotThere" cl_NotThere from ⟨PySem.W.mg_of X G ca_NotThere, ck_NotThere, ce_NotThere, ct_NotThere, ci_NotThere, cs_NotThere⟩) (show ClsR K cl_NotThere from ⟨rh_NotThere, rg_NotThere, rgg_NotThere, rc_NotThere, rm_NotThere, cspG, ctkG⟩) (kit_t (kit_of (show ClsN K mg "NotThere" cl_NotThere from ⟨PySem.W.mg_of X G ca_NotThere, ck_NotThere, ce_NotThere, ct_NotThere, ci_NotThere, cs_NotThere⟩) rp_NotThere_NotThere)) (isTbl_cons (show ClsN K mg "Twice" cl_Twice from ⟨PySem.W.mg_of X G ca_Twice, ck_Twice, ce_Twice, ct_Twice, ci_Twice, cs_Twice⟩) (show ClsR K cl_Twice from ⟨rh_Twice, rg_Twice, rgg_Twice, rc_Twice, rm_Twice, cspG, ctkG⟩) (kit_f (kit_of (show ClsN K mg "NotThere" cl_NotThere from ⟨PySem.W.mg_of X G ca_NotThere, ck_NotThere, ce_NotThere, ct_NotThere, ci_NotThere, cs_NotThere⟩) rp_Twice_NotThere) kit_nil) isTbl_nil))))⟩
  is_9 := ⟨cl_Twice, PySem.W.mg_of X G ca_Twice, (isTbl_cons (show ClsN K mg "NoLine" cl_NoLine from ⟨PySem.W.mg_of X G ca_NoLine, ck_NoLine, ce_NoLine, ct_NoLine, ci_NoLine, cs_NoLine⟩) (show ClsR K cl_NoLine from ⟨rh_NoLine, rg_NoLine, rgg_NoLine, rc_NoLine, rm_NoLine, cspG, ctkG⟩) (kit_f (kit_of (show ClsN K mg "Twice" cl_Twice from ⟨PySem.W.mg_of X G ca_Twice, ck_Twice, ce_Twice, ct_Twice, ci_Twice, cs_Twice⟩) rp_NoLine_Twice) kit_nil) (isTbl_cons (show ClsN K mg "NoWord" cl_NoWord from ⟨PySem.W.mg_of X G ca_NoWord, ck_NoWord, ce_NoWord, ct_NoWord, ci_NoWord, cs_NoWord⟩) (show ClsR K cl_NoWord from ⟨rh_NoWord, rg_NoWord, rgg_NoWord, rc_NoWord, rm_NoWord, cspG, ctkG⟩) (kit_f (kit_of (show ClsN K mg "Twice" cl_Twice from ⟨PySem.W.mg_of X G ca_Twice, ck_Twice, ce_Twice, ct_Twice, ci_Twice, cs_Twice⟩) rp_NoWord_Twice) kit_nil) (isTbl_cons (show ClsN K mg "NotThere" cl_NotThere from ⟨PySem.W.mg_of X G ca_NotThere, ck_NotThere, ce_NotThere, ct_NotThere, ci_NotThere, cs_NotThere⟩) (show ClsR K cl_NotThere from ⟨rh_NotThere, rg_NotThere, rgg_NotThere, rc_NotThere, rm_NotThere, cspG, ctkG⟩) (kit_f (kit_of (show ClsN K mg "Twice" cl_Twice from ⟨PySem.W.mg_of X G ca_Twice, ck_Twice, ce_Twice, ct_Twice, ci_Twice, cs_Twice⟩) rp_NotThere_Twice) kit_nil) (isTbl_cons (show ClsN K mg "Twice" cl_Twice from ⟨PySem.W.mg_of X G ca_Twice, ck_Twice, ce_Twice, ct_Twice, ci_Twice, cs_Twice⟩) (show ClsR K cl_Twice from ⟨rh_Twice, rg_Twice, rgg_Twice, rc_Twice, rm_Twice, cspG, ctkG⟩) (kit_t (kit_of (show ClsN K mg "Twice" cl_Twice from ⟨PySem.W.mg_of X G ca_Twice, ck_Twice, ce_Twice, ct_Twice, ci_Twice, cs_Twice⟩) rp_Twice_Twice)) isTbl_nil))))⟩
  is_10 := ⟨cl_NoWord, PySem.W.mg_of X G ca_NoWord, (isTbl_cons (show ClsN K mg "NoLine" cl_NoLine from ⟨PySem.W.mg_of X G ca_NoLine, ck_NoLine, ce_NoLine, ct_NoLine, ci_NoLine, cs_NoLine⟩) (show ClsR K cl_NoLine from ⟨rh_NoLine, rg_NoLine, rgg_NoLine, rc_NoLine, rm_NoLine, cspG, ctkG⟩) (kit_f (kit_of (show ClsN K mg "NoWord" cl_NoWord from ⟨PySem.W.mg_of X G ca_NoWord, ck_NoWord, ce_NoWord, ct_NoWord, ci_NoWord, cs_NoWord⟩) rp_NoLine_NoWord) kit_nil) (isTbl_cons (show ClsN K mg "NoWord" cl_NoWord from ⟨PySem.W.mg_of X G ca_NoWord, ck_NoWord, ce_NoWord, ct_NoWord, ci_NoWord, cs_NoWord⟩) (show ClsR K cl_NoWord from ⟨rh_NoWord, rg_NoWord, rgg_NoWord, rc_NoWord, rm_NoWord, cspG, ctkG⟩) (kit_t (kit_of (show ClsN K mg "NoWord" cl_NoWord from ⟨PySem.W.mg_of X G ca_NoWord, ck_NoWord, ce_NoWord, ct_NoWord, ci_NoWord, cs_NoWord⟩) rp_NoWord_NoWord)) (isTbl_cons (show ClsN K mg "NotThere" cl_NotThere from ⟨PySem.W.mg_of X G ca_NotThere, ck_NotThere, ce_NotThere, ct_NotThere, ci_NotThere, cs_NotThere⟩) (show ClsR K cl_NotThere from ⟨rh_NotThere, rg_NotThere, rgg_NotThere, rc_NotThere, rm_NotThere, cspG, ctkG⟩) (kit_f (kit_of (show ClsN K mg "NoWord" cl_NoWord from ⟨PySem.W.mg_of X G ca_NoWord, ck_NoWord, ce_NoWord, ct_NoWord, ci_NoWord, cs_NoWord⟩) rp_NotThere_NoWord) kit_nil) (isTbl_cons (show ClsN K mg "Twice" cl_Twice from ⟨PySem.W.mg_of X G ca_Twice, ck_Twice, ce_Twice, ct_Twice, ci_Twice, cs_Twice⟩) (show ClsR K cl_Twice from ⟨rh_Twice, rg_Twice, rgg_Twice, rc_Twice, rm_Twice, cspG, ctkG⟩) (kit_f (kit_of (show ClsN K mg "NoWord" cl_NoWord from ⟨PySem.W.mg_of X G ca_NoWord, ck_NoWord, ce_NoWord, ct_NoWord, ci_NoWord, cs_NoWord⟩) rp_Twice_NoWord) kit_nil) isTbl_nil))))⟩
  is_11 := ⟨cl_NoFloor, PySem.W.mg_of X G ca_NoFloor, (isTbl_cons (show ClsN K mg "NoLine" cl_NoLine from ⟨PySem.W.mg_of X G ca_NoLine, ck_NoLine, ce_NoLine, ct_NoLine, ci_NoLine, cs_NoLine⟩) (show ClsR K cl_NoLine from ⟨rh_NoLine, rg_NoLine, rgg_NoLine, rc_NoLine, rm_NoLine, cspG, ctkG⟩) (kit_f (kit_of (show ClsN K mg "NoFloor" cl_NoFloor from ⟨PySem.W.mg_of X G ca_NoFloor, ck_NoFloor, ce_NoFloor, ct_NoFloor, ci_NoFloor, cs_NoFloor⟩) rp_NoLine_NoFloor) kit_nil) (isTbl_cons (show ClsN K mg "NoWord" cl_NoWord from ⟨PySem.W.mg_of X G ca_NoWord, ck_NoWord, ce_NoWord, ct_NoWord, ci_NoWord, cs_NoWord⟩) (show ClsR K cl_NoWord from ⟨rh_NoWord, rg_NoWord, rgg_NoWord, rc_NoWord, rm_NoWord, cspG, ctkG⟩) (kit_f (kit_of (show ClsN K mg "NoFloor" cl_NoFloor from ⟨PySem.W.mg_of X G ca_NoFloor, ck_NoFloor, ce_NoFloor, ct_NoFloor, ci_NoFloor, cs_NoFloor⟩) rp_NoWord_NoFloor) kit_nil) (isTbl_cons (show ClsN K mg "NotThere" cl_NotThere from ⟨PySem.W.mg_of X G ca_NotThere, ck_NotThere, ce_NotThere, ct_NotThere, ci_NotThere, cs_NotThere⟩) (show ClsR K cl_NotThere from ⟨rh_NotThere, rg_NotThere, rgg_NotThere, rc_NotThere, rm_NotThere, cspG, ctkG⟩) (kit_f (kit_of (show ClsN K mg "NoFloor" cl_NoFloor from ⟨PySem.W.mg_of X G ca_NoFloor, ck_NoFloor, ce_NoFloor, ct_NoFloor, ci_NoFloor, cs_NoFloor⟩) rp_NotThere_NoFloor) kit_nil) (isTbl_cons (show ClsN K mg "Twice" cl_Twice from ⟨PySem.W.mg_of X G ca_Twice, ck_Twice, ce_Twice, ct_Twice, ci_Twice, cs_Twice⟩) (show ClsR K cl_Twice from ⟨rh_Twice, rg_Twice, rgg_Twice, rc_Twice, rm_Twice, cspG, ctkG⟩) (kit_f (kit_of (show ClsN K mg "NoFloor" cl_NoFloor from ⟨PySem.W.mg_of X G ca_NoFloor, ck_NoFloor, ce_NoFloor, ct_NoFloor, ci_NoFloor, cs_NoFloor⟩) rp_Twice_NoFloor) kit_nil) isTbl_nil))))⟩
  is_12 := ⟨cl_NoSheet, PySem.W.mg_of X G ca_NoSheet, (isTbl_cons (show ClsN K mg "NoLine" cl_NoLine from ⟨PySem.W.mg_of X G ca_NoLine, ck_NoLine, ce_NoLine, ct_NoLine, ci_NoLine, cs_NoLine⟩) (show ClsR K cl_NoLine from ⟨rh_NoLine, rg_NoLine, rgg_NoLine, rc_NoLine, rm_NoLine, cspG, ctkG⟩) (kit_f (kit_of (show ClsN K mg "NoSheet" cl_NoSheet from ⟨PySem.W.mg_of X G ca_NoSheet, ck_NoSheet, ce_NoSheet, ct_NoSheet, ci_NoSheet, cs_NoSheet⟩) rp_NoLine_NoSheet) kit_nil) (isTbl_cons (show ClsN K mg "NoWord" cl_NoWord from ⟨PySem.W.mg_of X G ca_NoWord, ck_NoWord, ce_NoWord, ct_NoWord, ci_NoWord, cs_NoWord⟩) (show ClsR K cl_NoWord from ⟨rh_NoWord, rg_NoWord, rgg_NoWord, rc_NoWord, rm_NoWord, cspG, ctkG⟩) (kit_f (kit_of (show ClsN K mg "NoSheet" cl_NoSheet from ⟨PySem.W.mg_of X G ca_NoSheet, ck_NoSheet, ce_NoSheet, ct_NoSheet, ci_NoSheet, cs_NoSheet⟩) rp_NoWord_NoSheet) kit_nil) (isTbl_cons (show ClsN K mg "NotThere" cl_NotThere from ⟨PySem.W.mg_of X G ca_NotThere, ck_NotThere, ce_NotThere, ct_NotThere, ci_NotThere, cs_NotThere⟩) (show ClsR K cl_NotThere from ⟨rh_NotThere, rg_NotThere, rgg_NotThere, rc_NotThere, rm_NotThere, cspG, ctkG⟩) (kit_f (kit_of (show ClsN K mg "NoSheet" cl_NoSheet from ⟨PySem.W.mg_of X G ca_NoSheet, ck_NoSheet, ce_NoSheet, ct_NoSheet, ci_NoSheet, cs_NoSheet⟩) rp_NotThere_NoSheet) kit_nil) (isTbl_cons (show ClsN K mg "Twice" cl_Twice from ⟨PySem.W.mg_of X G ca_Twice, ck_Twice, ce_Twice, ct_Twice, ci_Twice, cs_Twice⟩) (show ClsR K cl_Twice from ⟨rh_Twice, rg_Twice, rgg_Twice, rc_Twice, rm_Twice, cspG, ctkG⟩) (kit_f (kit_of (show ClsN K mg "NoSheet" cl_NoSheet from ⟨PySem.W.mg_of X G ca_NoSheet, ck_NoSheet, ce_NoSheet, ct_NoSheet, ci_NoSheet, cs_NoSheet⟩) rp_Twice_NoSheet) kit_nil) isTbl_nil))))⟩
  fl_0 := fun C hC => by
    rw [clOf_of (PySem.W.mg_of X G ca_NoLine)] at hC
    cases hC
    exact ⟨ClsR.f (show ClsR K cl_NoLine from ⟨rh_NoLine, rg_NoLine, rgg_NoLine, rc_NoLine, rm_NoLine, cspG, ctkG⟩) (show ClsN K mg "NoLine" cl_NoLine from ⟨PySem.W.mg_of X G ca_NoLine, ck_NoLine, ce_NoLine, ct_NoLine, ci_NoLine, cs_NoLine⟩), rn_NoLine⟩
  fd_Book_worths := fun C hC => by
    replace hC : clOf mg "Book" = some C := hC
    rw [show clOf mg "Book" = some cl_Book from clOf_of (PySem.W.mg_of X G oca_Book)] at hC
    cases hC
    exact ⟨⟨opg_Book, ohd_Book, opo_Book, osa_Book⟩, ono_Book_worths⟩
  fd_Book_row := fun C hC => by
    replace hC : clOf mg "Book" = some C := hC
    rw [show clOf mg "Book" = some cl_Book from clOf_of (PySem.W.mg_of X G oca_Book)] at hC
    cases hC
    exact ⟨⟨opg_Book, ohd_Book, opo_Book, osa_Book⟩, ono_Book_row⟩
  fd_Book_bits := fun C hC => by
    replace hC : clOf mg "Book" = some C := hC
    rw [show clOf mg "Book" = some cl_Book from clOf_of (PySem.W.mg_of X G oca_Book)] at hC
    cases hC
    exact ⟨⟨opg_Book, ohd_Book, opo_Book, osa_Book⟩, ono_Book_bits⟩
  d_Book_words := ⟨cl_Book, f0, _, PySem.W.mg_of X G oca_Book, ⟨opg_Book, ohd_Book, opo_Book, osa_Book⟩, ⟨a0, i0, k0⟩, ⟨⟨_, _, _, _, _, _, _, _, _, _, rfl, l0, e0, .inl ⟨rfl, rfl⟩, .inl rfl⟩, k0⟩⟩
  d_is_word := ⟨f1, _, PySem.W.mg_of X G a1, fun_mk l1 e1 k1⟩
  d_Book_need := ⟨cl_Book, f2, _, PySem.W.mg_of X G oca_Book, ⟨opg_Book, ohd_Book, opo_Book, osa_Book⟩, ⟨a2, i2, k2⟩, ⟨⟨_, _, _, _, _, _, _, _, _, _, rfl, l2, e2, .inl ⟨rfl, rfl⟩, .inl rfl⟩, k2⟩⟩
  d_Book_worth := ⟨cl_Book, f3, _, PySem.W.mg_of X G oca_Book, ⟨opg_Book, ohd_Book, opo_Book, osa_Book⟩, ⟨a3, i3, k3⟩, ⟨⟨_, _, _, _, _, _, _, _, _, _, rfl, l3, e3, .inl ⟨rfl, rfl⟩, .inl rfl⟩, k3⟩⟩
  d__law_kinds := ⟨f4, _, PySem.W.mg_of X G a4, fun_mk l4 e4 k4⟩
  d_Book_turn_bits := ⟨cl_Book, f5, _, PySem.W.mg_of X G oca_Book, ⟨opg_Book, ohd_Book, opo_Book, osa_Book⟩, ⟨a5, i5, k5⟩, ⟨⟨_, _, _, _, _, _, _, _, _, _, rfl, l5, e5, .inl ⟨rfl, rfl⟩, .inl rfl⟩, k5⟩⟩
  d_Book_put := ⟨cl_Book, f6, _, PySem.W.mg_of X G oca_Book, ⟨opg_Book, ohd_Book, opo_Book, osa_Book⟩, ⟨a6, i6, k6⟩, ⟨⟨_, _, _, _, _, _, _, _, _, _, rfl, l6, e6, .inr ⟨by simp, dT6, _, [.int 0 dk6_0], dgn6, rfl, dl6, rfl, (.cons ⟨_, rfl⟩ .nil)⟩, .inl rfl⟩, k6⟩⟩
  d_is_worth := ⟨f7, _, PySem.W.mg_of X G a7, fun_mk l7 e7 k7⟩
  d_Book_has := ⟨cl_Book, f8, _, PySem.W.mg_of X G oca_Book, ⟨opg_Book, ohd_Book, opo_Book, osa_Book⟩, ⟨a8, i8, k8⟩, ⟨⟨_, _, _, _, _, _, _, _, _, _, rfl, l8, e8, .inl ⟨rfl, rfl⟩, .inl rfl⟩, k8⟩⟩
  d_Book___init__ := ⟨cl_Book, f9, _, PySem.W.mg_of X G oca_Book, ⟨omk_Book, a9, i9, okc_Book⟩, ⟨⟨_, _, _, _, _, _, _, _, _, _, rfl, l9, e9, .inl ⟨rfl, rfl⟩, .inl rfl⟩, k9⟩⟩
  d_read_book := ⟨f10, _, PySem.W.mg_of X G a10, fun_mk l10 e10 k10⟩
  d__law_at := ⟨f11, _, PySem.W.mg_of X G a11, fun_mk l11 e11 k11⟩
  d__law_cell_at := ⟨f12, _, PySem.W.mg_of X G a12, fun_mk l12 e12 k12⟩
  d__law_is_line := ⟨f13, _, PySem.W.mg_of X G a13, fun_mk l13 e13 k13⟩
  d__law_due := ⟨f14, _, PySem.W.mg_of X G a14, fun_mk l14 e14 k14⟩
  d__law_word := ⟨f15, _, PySem.W.mg_of X G a15, fun_mk l15 e15 k15⟩
  d__law_odd := ⟨f16, _, PySem.W.mg_of X G a16, fun_mk l16 e16 k16⟩
  d__law_random := ⟨f17, _, PySem.W.mg_of X G a17, fun_mk l17 e17 k17⟩
  d__law_line := ⟨f18, _, PySem.W.mg_of X G a18, fun_mk l18 e18 k18⟩
  d__law_lines := ⟨f19, _, PySem.W.mg_of X G a19, fun_mk l19 e19 k19⟩
  d_law := ⟨f20, _, PySem.W.mg_of X G a20, fun_mk l20 e20 k20⟩
  n_ValueError := PySem.W.mg_none_of X G b0
  n_all := PySem.W.mg_none_of X G b1
  n_bool := PySem.W.mg_none_of X G b2
  n_enumerate := PySem.W.mg_none_of X G b3
  n_int := PySem.W.mg_none_of X G b4
  n_isinstance := PySem.W.mg_none_of X G b5
  n_len := PySem.W.mg_none_of X G b6
  n_range := PySem.W.mg_none_of X G b7
  n_sorted := PySem.W.mg_none_of X G b8
  n_str := PySem.W.mg_none_of X G b9
  c_FIGURES := ⟨_, PySem.W.mg_of X G g0, ⟨_, by first | rfl | (show Value.str _ _ = Value.str _ _; congr 1; decide +kernel)⟩⟩
  c_LETTERS := ⟨_, PySem.W.mg_of X G g1, ⟨_, by first | rfl | (show Value.str _ _ = Value.str _ _; congr 1; decide +kernel)⟩⟩
  c_LONGEST := ⟨_, PySem.W.mg_of X G g2, ⟨_, by first | rfl | (show Value.str _ _ = Value.str _ _; congr 1; decide +kernel)⟩⟩
theorem all_mk (hF : ∀ ns : List Int, ns.length ≤ 63 → F_law [.ro (ns.map D.int)] = .ok (.bl true)) {P : Program} {w : World} {K : Fg} {h : Heap} {mg : Str → Option Value} {fa : Addr} (hfa : mg "law" = some (.ref fa)) (T : Facts K mg) :
    ∃ fd : FuncData, (∀ (s : Shared) (u : Value), BindsTo s fd ⟨[u], []⟩ [("_law_script", u)]) ∧ ∀ base : Heap, K.In base → base.Ns mainGlobals mg → FnOk P w K mg base (L2.CX P w) 6 fa fd ["_law_script"] (spLaw K) := by
  obtain ⟨f, fd, hm, F⟩ := T.d_law
  have e : fa = f := Value.ref.inj (Option.some.inj (hfa.symm.trans hm))
  subst e
  refine ⟨fd, fun s u => ?_, fun base _ _ => ?_⟩
  · obtain ⟨oc, od, kV, doc, pm, an, cdv, ct, osl, rfl, lk, hcd⟩ := F.ex
    exact .of_eq rfl
  · exact (all_ok T F).imp (law_imp (Wp := ⟨K, _, _⟩) hF)
end P_k19
open PySem PySem.W PyProof.Rows in
set_option maxRecDepth 100000 in
set_option maxHeartbeats 0 in
theorem PySem.Challenge.cw_crosswright_k19_a_book_read_holds : PySem.Challenge.rw_crosswright_k19_a_book_read.Holds := by
  w_on; o_law; k_head; (case hw => w_witness2)
  k_fill
  refine CV.law_walk (l := PySem.Challenge.rw_crosswright_k19_a_book_read) (k := 6) (x := "_law_script") rfl rfl ⟨rfl, by decide, by decide⟩ (fun w h Y => PySem.W.kIn_of Y) ?F
  case F =>
    intro w mg fa h KX G hmg
    refine' P_k19.all_mk (h := h) CV.law_true hmg (P_k19.facts KX G ?xxca_NoLine ?xxca_NoWord ?xxca_NotThere ?xxca_Twice ?xxca_CrossError ?xxca_NoDeed ?xxca_NoName ?xxca_NoStep ?xxca_NoWorking ?xxca_NoMatch ?xxca_NotFilled ?xxca_NoFloor ?xxca_NoSheet ?xxck_NoLine ?xxce_NoLine ?xxct_NoLine ?xxci_NoLine ?xxcs_NoLine ?xxck_NoWord ?xxce_NoWord ?xxct_NoWord ?xxci_NoWord ?xxcs_NoWord ?xxck_NotThere ?xxce_NotThere ?xxct_NotThere ?xxci_NotThere ?xxcs_NotThere ?xxck_Twice ?xxce_Twice ?xxct_Twice ?xxci_Twice ?xxcs_Twice ?xxck_CrossError ?xxce_CrossError ?xxct_CrossError ?xxci_CrossError ?xxcs_CrossError ?xxck_NoDeed ?xxce_NoDeed ?xxct_NoDeed ?xxci_NoDeed ?xxcs_NoDeed ?xxck_NoName ?xxce_NoName ?xxct_NoName ?xxci_NoName ?xxcs_NoName ?xxck_NoStep ?xxce_NoStep ?xxct_NoStep ?xxci_NoStep ?xxcs_NoStep ?xxck_NoWorking ?xxce_NoWorking ?xxct_NoWorking ?xxci_NoWorking ?xxcs_NoWorking ?xxck_NoMatch ?xxce_NoMatch ?xxct_NoMatch ?xxci_NoMatch ?xxcs_NoMatch ?xxck_NotFilled ?xxce_NotFilled ?xxct_NotFilled ?xxci_NotFilled ?xxcs_NotFilled ?xxck_NoFloor ?xxce_NoFloor ?xxct_NoFloor ?xxci_NoFloor ?xxcs_NoFloor ?xxck_NoSheet ?xxce_NoSheet ?xxct_NoSheet ?xxci_NoSheet ?xxcs_NoSheet ?xxcspG ?xxctkG ?xxrh_NoLine ?xxrg_NoLine ?xxrgg_NoLine ?xxrc_NoLine ?xxrm_NoLine ?xxrv_NoLine ?xxrp_NoLine_CrossError ?xxrp_NoLine_NoDeed ?xxrp_NoLine_NoName ?xxrp_NoLine_NoStep ?xxrp_NoLine_NoWorking ?xxrp_NoLine_NoMatch ?xxrp_NoLine_NotFilled ?xxrp_NoLine_NoLine ?xxrp_NoLine_NotThere ?xxrp_NoLine_Twice ?xxrp_NoLine_NoWord ?xxrp_NoLine_NoFloor ?xxrp_NoLine_NoSheet ?xxrl_NoLine ?xxrs_NoLine ?xxri_NoLine ?xxrt_NoLine ?xxrn_NoLine ?xxrf_NoLine ?xxre_NoLine ?xxrk_NoLine ?xxrh_NoWord ?xxrg_NoWord ?xxrgg_NoWord ?xxrc_NoWord ?xxrm_NoWord ?xxrv_NoWord ?xxrp_NoWord_CrossError ?xxrp_NoWord_NoDeed ?xxrp_NoWord_NoName ?xxrp_NoWord_NoStep ?xxrp_NoWord_NoWorking ?xxrp_NoWord_NoMatch ?xxrp_NoWord_NotFilled ?xxrp_NoWord_NoLine ?xxrp_NoWord_NotThere ?xxrp_NoWord_Twice ?xxrp_NoWord_NoWord ?xxrp_NoWord_NoFloor ?xxrp_NoWord_NoSheet ?xxrl_NoWord ?xxrs_NoWord ?xxri_NoWord ?xxrt_NoWord ?xxrn_NoWord ?xxrf_NoWord ?xxre_NoWord ?xxrk_NoWord ?xxrh_NotThere ?xxrg_NotThere ?xxrgg_NotThere ?xxrc_NotThere ?xxrm_NotThere ?xxrv_NotThere ?xxrp_NotThere_CrossError ?xxrp_NotThere_NoDeed ?xxrp_NotThere_NoName ?xxrp_NotThere_NoStep ?xxrp_NotThere_NoWorking ?xxrp_NotThere_NoMatch ?xxrp_NotThere_NotFilled ?xxrp_NotThere_NoLine ?xxrp_NotThere_NotThere ?xxrp_NotThere_Twice ?xxrp_NotThere_NoWord ?xxrp_NotThere_NoFloor ?xxrp_NotThere_NoSheet ?xxrl_NotThere ?xxrs_NotThere ?xxri_NotThere ?xxrt_NotThere ?xxrn_NotThere ?xxrf_NotThere ?xxre_NotThere ?xxrk_NotThere ?xxrh_Twice ?xxrg_Twice ?xxrgg_Twice ?xxrc_Twice ?xxrm_Twice ?xxrv_Twice ?xxrp_Twice_CrossError ?xxrp_Twice_NoDeed ?xxrp_Twice_NoName ?xxrp_Twice_NoStep ?xxrp_Twice_NoWorking ?xxrp_Twice_NoMatch ?xxrp_Twice_NotFilled ?xxrp_Twice_NoLine ?xxrp_Twice_NotThere ?xxrp_Twice_Twice ?xxrp_Twice_NoWord ?xxrp_Twice_NoFloor ?xxrp_Twice_NoSheet ?xxrl_Twice ?xxrs_Twice ?xxri_Twice ?xxrt_Twice ?xxrn_Twice ?xxrf_Twice ?xxre_Twice ?xxrk_Twice ?xxoca_Book ?xxopg_Book ?xxohd_Book ?xxopo_Book ?xxosa_Book ?xxomk_Book ?xxokc_Book ?xxono_Book_worths ?xxono_Book_row ?xxono_Book_bits ?xxa0 ?xxi0 ?xxl0 ?xxe0 ?xxk0 ?xxa1 ?xxl1 ?xxe1 ?xxk1 ?xxa2 ?xxi2 ?xxl2 ?xxe2 ?xxk2 ?xxa3 ?xxi3 ?xxl3 ?xxe3 ?xxk3 ?xxa4 ?xxl4 ?xxe4 ?xxk4 ?xxa5 ?xxi5 ?xxl5 ?xxe5 ?xxk5 ?xxa6 ?xxi6 ?xxl6 ?xxdl6 ?xxe6 ?xxk6 ?xxa7 ?xxl7 ?xxe7 ?xxk7 ?xxa8 ?xxi8 ?xxl8 ?xxe8 ?xxk8 ?xxa9 ?xxi9 ?xxl9 ?xxe9 ?xxk9 ?xxa10 ?xxl10 ?xxe10 ?xxk10 ?xxa11 ?xxl11 ?xxe11 ?xxk11 ?xxa12 ?xxl12 ?xxe12 ?xxk12 ?xxa13 ?xxl13 ?xxe13 ?xxk13 ?xxa14 ?xxl14 ?xxe14 ?xxk14 ?xxa15 ?xxl15 ?xxe15 ?xxk15 ?xxa16 ?xxl16 ?xxe16 ?xxk16 ?xxa17 ?xxl17 ?xxe17 ?xxk17 ?xxa18 ?xxl18 ?xxe18 ?xxk18 ?xxa19 ?xxl19 ?xxe19 ?xxk19 ?xxa20 ?xxl20 ?xxe20 ?xxk20 ?xxb0 ?xxb1 ?xxb2 ?xxb3 ?xxb4 ?xxb5 ?xxb6 ?xxb7 ?xxb8 ?xxb9 ?xxg0 ?xxg1 ?xxg2)
    (case xxca_NoLine => k_is)
    (case xxca_NoWord => k_is)
    (case xxca_NotThere => k_is)
    (case xxca_Twice => k_is)
    (case xxca_CrossError => k_is)
    (case xxca_NoDeed => k_is)
    (case xxca_NoName => k_is)
    (case xxca_NoStep => k_is)
    (case xxca_NoWorking => k_is)
    (case xxca_NoMatch => k_is)
    (case xxca_NotFilled => k_is)
    (case xxca_NoFloor => k_is)
    (case xxca_NoSheet => k_is)
    (case xxck_NoLine => k_is)
    (case xxce_NoLine => k_is)
    (case xxct_NoLine => k_is)
    (case xxci_NoLine => k_is)
    (case xxcs_NoLine => k_is)
    (case xxck_NoWord => k_is)
    (case xxce_NoWord => k_is)
    (case xxct_NoWord => k_is)
    (case xxci_NoWord => k_is)
    (case xxcs_NoWord => k_is)
    (case xxck_NotThere => k_is)
    (case xxce_NotThere => k_is)
    (case xxct_NotThere => k_is)
    (case xxci_NotThere => k_is)
    (case xxcs_NotThere => k_is)
    (case xxck_Twice => k_is)
    (case xxce_Twice => k_is)
    (case xxct_Twice => k_is)
    (case xxci_Twice => k_is)
    (case xxcs_Twice => k_is)
    (case xxck_CrossError => k_is)
    (case xxce_CrossError => k_is)
    (case xxct_CrossError => k_is)
    (case xxci_CrossError => k_is)
    (case xxcs_CrossError => k_is)
    (case xxck_NoDeed => k_is)
    (case xxce_NoDeed => k_is)
    (case xxct_NoDeed => k_is)
    (case xxci_NoDeed => k_is)
    (case xxcs_NoDeed => k_is)
    (case xxck_NoName => k_is)
    (case xxce_NoName => k_is)
    (case xxct_NoName => k_is)
    (case xxci_NoName => k_is)
    (case xxcs_NoName => k_is)
    (case xxck_NoStep => k_is)
    (case xxce_NoStep => k_is)
    (case xxct_NoStep => k_is)
    (case xxci_NoStep => k_is)
    (case xxcs_NoStep => k_is)
    (case xxck_NoWorking => k_is)
    (case xxce_NoWorking => k_is)
    (case xxct_NoWorking => k_is)
    (case xxci_NoWorking => k_is)
    (case xxcs_NoWorking => k_is)
    (case xxck_NoMatch => k_is)
    (case xxce_NoMatch => k_is)
    (case xxct_NoMatch => k_is)
    (case xxci_NoMatch => k_is)
    (case xxcs_NoMatch => k_is)
    (case xxck_NotFilled => k_is)
    (case xxce_NotFilled => k_is)
    (case xxct_NotFilled => k_is)
    (case xxci_NotFilled => k_is)
    (case xxcs_NotFilled => k_is)
    (case xxck_NoFloor => k_is)
    (case xxce_NoFloor => k_is)
    (case xxct_NoFloor => k_is)
    (case xxci_NoFloor => k_is)
    (case xxcs_NoFloor => k_is)
    (case xxck_NoSheet => k_is)
    (case xxce_NoSheet => k_is)
    (case xxct_NoSheet => k_is)
    (case xxci_NoSheet => k_is)
    (case xxcs_NoSheet => k_is)
    (case xxcspG => k_is)
    (case xxctkG => k_is)
    (case xxrh_NoLine => k_is)
    (case xxrg_NoLine => k_is)
    (case xxrgg_NoLine => k_is)
    (case xxrc_NoLine => k_is)
    (case xxrm_NoLine => k_is)
    (case xxrv_NoLine => k_is)
    (case xxrp_NoLine_CrossError => k_is)
    (case xxrp_NoLine_NoDeed => k_is)
    (case xxrp_NoLine_NoName => k_is)
    (case xxrp_NoLine_NoStep => k_is)
    (case xxrp_NoLine_NoWorking => k_is)
    (case xxrp_NoLine_NoMatch => k_is)
    (case xxrp_NoLine_NotFilled => k_is)
    (case xxrp_NoLine_NoLine => k_is)
    (case xxrp_NoLine_NotThere => k_is)
    (case xxrp_NoLine_Twice => k_is)
    (case xxrp_NoLine_NoWord => k_is)
    (case xxrp_NoLine_NoFloor => k_is)
    (case xxrp_NoLine_NoSheet => k_is)
    (case xxrl_NoLine => k_is)
    (case xxrs_NoLine => k_is)
    (case xxri_NoLine => k_is)
    (case xxrt_NoLine => k_is)
    (case xxrn_NoLine => k_is)
    (case xxrf_NoLine => k_is)
    (case xxre_NoLine => k_is)
    (case xxrk_NoLine => k_is)
    (case xxrh_NoWord => k_is)
    (case xxrg_NoWord => k_is)
    (case xxrgg_NoWord => k_is)
    (case xxrc_NoWord => k_is)
    (case xxrm_NoWord => k_is)
    (case xxrv_NoWord => k_is)
    (case xxrp_NoWord_CrossError => k_is)
    (case xxrp_NoWord_NoDeed => k_is)
    (case xxrp_NoWord_NoName => k_is)
    (case xxrp_NoWord_NoStep => k_is)
    (case xxrp_NoWord_NoWorking => k_is)
    (case xxrp_NoWord_NoMatch => k_is)
    (case xxrp_NoWord_NotFilled => k_is)
    (case xxrp_NoWord_NoLine => k_is)
    (case xxrp_NoWord_NotThere => k_is)
    (case xxrp_NoWord_Twice => k_is)
    (case xxrp_NoWord_NoWord => k_is)
    (case xxrp_NoWord_NoFloor => k_is)
    (case xxrp_NoWord_NoSheet => k_is)
    (case xxrl_NoWord => k_is)
    (case xxrs_NoWord => k_is)
    (case xxri_NoWord => k_is)
    (case xxrt_NoWord => k_is)
    (case xxrn_NoWord => k_is)
    (case xxrf_NoWord => k_is)
    (case xxre_NoWord => k_is)
    (case xxrk_NoWord => k_is)
    (case xxrh_NotThere => k_is)
    (case xxrg_NotThere => k_is)
    (case xxrgg_NotThere => k_is)
    (case xxrc_NotThere => k_is)
    (case xxrm_NotThere => k_is)
    (case xxrv_NotThere => k_is)
    (case xxrp_NotThere_CrossError => k_is)
    (case xxrp_NotThere_NoDeed => k_is)
    (case xxrp_NotThere_NoName => k_is)
    (case xxrp_NotThere_NoStep => k_is)
    (case xxrp_NotThere_NoWorking => k_is)
    (case xxrp_NotThere_NoMatch => k_is)
    (case xxrp_NotThere_NotFilled => k_is)
    (case xxrp_NotThere_NoLine => k_is)
    (case xxrp_NotThere_NotThere => k_is)
    (case xxrp_NotThere_Twice => k_is)
    (case xxrp_NotThere_NoWord => k_is)
    (case xxrp_NotThere_NoFloor => k_is)
    (case xxrp_NotThere_NoSheet => k_is)
    (case xxrl_NotThere => k_is)
    (case xxrs_NotThere => k_is)
    (case xxri_NotThere => k_is)
    (case xxrt_NotThere => k_is)
    (case xxrn_NotThere => k_is)
    (case xxrf_NotThere => k_is)
    (case xxre_NotThere => k_is)
    (case xxrk_NotThere => k_is)
    (case xxrh_Twice => k_is)
    (case xxrg_Twice => k_is)
    (case xxrgg_Twice => k_is)
    (case xxrc_Twice => k_is)
    (case xxrm_Twice => k_is)
    (case xxrv_Twice => k_is)
    (case xxrp_Twice_CrossError => k_is)
    (case xxrp_Twice_NoDeed => k_is)
    (case xxrp_Twice_NoName => k_is)
    (case xxrp_Twice_NoStep => k_is)
    (case xxrp_Twice_NoWorking => k_is)
    (case xxrp_Twice_NoMatch => k_is)
    (case xxrp_Twice_NotFilled => k_is)
    (case xxrp_Twice_NoLine => k_is)
    (case xxrp_Twice_NotThere => k_is)
    (case xxrp_Twice_Twice => k_is)
    (case xxrp_Twice_NoWord => k_is)
    (case xxrp_Twice_NoFloor => k_is)
    (case xxrp_Twice_NoSheet => k_is)
    (case xxrl_Twice => k_is)
    (case xxrs_Twice => k_is)
    (case xxri_Twice => k_is)
    (case xxrt_Twice => k_is)
    (case xxrn_Twice => k_is)
    (case xxrf_Twice => k_is)
    (case xxre_Twice => k_is)
    (case xxrk_Twice => k_is)
    (case xxoca_Book => k_is)
    (case xxopg_Book => k_is)
    (case xxohd_Book => k_is)
    (case xxopo_Book => k_is)
    (case xxosa_Book => k_is)
    (case xxomk_Book => k_is)
    (case xxokc_Book => k_is)
    (case xxono_Book_worths => k_is)
    (case xxono_Book_row => k_is)
    (case xxono_Book_bits => k_is)
    (case xxa0 => k_is)
    (case xxi0 => k_is)
    (case xxl0 => k_is)
    (case xxe0 => k_is)
    (case xxk0 => k_is)
    (case xxa1 => k_is)
    (case xxl1 => k_is)
    (case xxe1 => k_is)
    (case xxk1 => k_is)
    (case xxa2 => k_is)
    (case xxi2 => k_is)
    (case xxl2 => k_is)
    (case xxe2 => k_is)
    (case xxk2 => k_is)
    (case xxa3 => k_is)
    (case xxi3 => k_is)
    (case xxl3 => k_is)
    (case xxe3 => k_is)
    (case xxk3 => k_is)
    (case xxa4 => k_is)
    (case xxl4 => k_is)
    (case xxe4 => k_is)
    (case xxk4 => k_is)
    (case xxa5 => k_is)
    (case xxi5 => k_is)
    (case xxl5 => k_is)
    (case xxe5 => k_is)
    (case xxk5 => k_is)
    (case xxa6 => k_is)
    (case xxi6 => k_is)
    (case xxl6 => k_is)
    (case xxdl6 => k_is)
    (case xxe6 => k_is)
    (case xxk6 => k_is)
    (case xxa7 => k_is)
    (case xxl7 => k_is)
    (case xxe7 => k_is)
    (case xxk7 => k_is)
    (case xxa8 => k_is)
    (case xxi8 => k_is)
    (case xxl8 => k_is)
    (case xxe8 => k_is)
    (case xxk8 => k_is)
    (case xxa9 => k_is)
    (case xxi9 => k_is)
    (case xxl9 => k_is)
    (case xxe9 => k_is)
    (case xxk9 => k_is)
    (case xxa10 => k_is)
    (case xxl10 => k_is)
    (case xxe10 => k_is)
    (case xxk10 => k_is)
    (case xxa11 => k_is)
    (case xxl11 => k_is)
    (case xxe11 => k_is)
    (case xxk11 => k_is)
    (case xxa12 => k_is)
    (case xxl12 => k_is)
    (case xxe12 => k_is)
    (case xxk12 => k_is)
    (case xxa13 => k_is)
    (case xxl13 => k_is)
    (case xxe13 => k_is)
    (case xxk13 => k_is)
    (case xxa14 => k_is)
    (case xxl14 => k_is)
    (case xxe14 => k_is)
    (case xxk14 => k_is)
    (case xxa15 => k_is)
    (case xxl15 => k_is)
    (case xxe15 => k_is)
    (case xxk15 => k_is)
    (case xxa16 => k_is)
    (case xxl16 => k_is)
    (case xxe16 => k_is)
    (case xxk16 => k_is)
    (case xxa17 => k_is)
    (case xxl17 => k_is)
    (case xxe17 => k_is)
    (case xxk17 => k_is)
    (case xxa18 => k_is)
    (case xxl18 => k_is)
    (case xxe18 => k_is)
    (case xxk18 => k_is)
    (case xxa19 => k_is)
    (case xxl19 => k_is)
    (case xxe19 => k_is)
    (case xxk19 => k_is)
    (case xxa20 => k_is)
    (case xxl20 => k_is)
    (case xxe20 => k_is)
    (case xxk20 => k_is)
    (case xxb0 => k_is)
    (case xxb1 => k_is)
    (case xxb2 => k_is)
    (case xxb3 => k_is)
    (case xxb4 => k_is)
    (case xxb5 => k_is)
    (case xxb6 => k_is)
    (case xxb7 => k_is)
    (case xxb8 => k_is)
    (case xxb9 => k_is)
    (case xxg0 => k_is)
    (case xxg1 => k_is)
    (case xxg2 => k_is)
#print axioms PySem.Challenge.cw_crosswright_k19_a_book_read_holds
