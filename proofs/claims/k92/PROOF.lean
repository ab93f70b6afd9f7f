import PyProof.Rows.All
import Wide.All
import OpenK.AllK
import Wide.FinOn
import KE.KStateDown
import HandS.ForMost
import HandS.ForExc
import HandS.Defaults
import HandS.Flow
import HandS.Style
import HandS.Wide
import HandS.IsInst
import HandS.More
import HandS.Evl
import HandS.StrMore
import HandS.Strs
import HandS.Zip
import HandS.DictComp
import HandS.MakeKwOnly
import HandS.WideBits
import HandS.TupAny
import HandS.CallLocal
import HandS.Lambda
import HandS.OwnEq
import KE.IntTextLaws
import KE.KxText
import HandS.WordsExc
import HandS.ExcInit
import HandS.ExcOwn
import HandS.ExcField
import HandS.ExcIs
import KE.KExcInit
import HandS.Head0
import HandS.Head1
import HandS.Head2
import HandS.HeadEnd
import HandS.HeadHook1
import HandS.HeadHook2
import HandS.SortInts
import HandS.Replace
import PySem.Challenge.RW_tenwhole_k92_whole_ratios_and_integers
set_option Elab.async false
set_option linter.all false
set_option maxRecDepth 100000
set_option maxHeartbeats 4000000

open PySem PySem.W PySem.Calls PyProof.Rows in
theorem Top.top_of (h : PySem.Challenge.rw_tenwhole_k92_whole_ratios_and_integers.row.wellSaid = true → PySem.Challenge.rw_tenwhole_k92_whole_ratios_and_integers.row.Holds) : PySem.Challenge.rw_tenwhole_k92_whole_ratios_and_integers.Holds := by
  w_on; o_law
  rename_i said
  exact h said

namespace Tw
open PySem L2
/-! ### words of our own over the layer -/
section
variable {X : Cx}
theorem pe_gI {x : Str} {pos : Pos} {i : Int} (hg : Gl X x) (h : ∃ t, X.mg x = some (.int i t)) (hd : (x == ("__debug__" : Str)) = false := by decide) : PE X (.Name x pos) (tC (.int i)) := by
  obtain ⟨t, h⟩ := h
  exact pe_glob hg h ⟨t, rfl⟩ hd
theorem pe_gS {x : Str} {pos : Pos} {z : Str} (hg : Gl X x) (h : ∃ t, X.mg x = some (.str z t)) (hd : (x == ("__debug__" : Str)) = false := by decide) : PE X (.Name x pos) (tC (.str z)) := by
  obtain ⟨t, h⟩ := h
  exact pe_glob hg h ⟨t, rfl⟩ hd
theorem pe_gR {x : Str} {pos : Pos} {a : Addr} (hg : Gl X x) (h : X.mg x = some (.ref a)) (hd : (x == ("__debug__" : Str)) = false := by decide) : PE X (.Name x pos) (tC (.ref a)) := pe_glob hg h rfl hd
end
/-- a def of the top keeps a promise -/
def Okd (P : Program) (w : World) (K : PySem.W.Frag) (mg : Str → Option Value) (base : Heap) (k : Nat) (f : Str × Option Str) (ps : List Str) (sp : Sp) : Prop :=
  ∃ fd, FnOk P w K mg base CX0 k (He.fAd K f) fd ps sp ∧ Binds K fd ps [] ∧ PySem.W.keepIn K (.ref (He.fAd K f)) = true
theorem iteD {p A B : Prop} [Decidable p] (h1 : p → A) (h2 : ¬ p → B) : if decide p = true then A else B := by
  by_cases h : p
  · rw [if_pos (decide_eq_true h)]
    exact h1 h
  · rw [if_neg (by rw [decide_eq_false h]; exact Bool.false_ne_true)]
    exact h2 h
theorem ite_no {b : Bool} {A B : Prop} (h : b = false) (q : B) : if b = true then A else B := by
  rw [h]
  exact iteF q
theorem ite_yes {b : Bool} {A B : Prop} (h : b = true) (q : A) : if b = true then A else B := by
  rw [h]
  exact iteT q
theorem iteND {p A B : Prop} [Decidable p] (h1 : ¬ p → A) (h2 : p → B) : if (!decide p) = true then A else B := by
  by_cases h : p
  · rw [decide_eq_true h]
    exact iteF (h2 h)
  · rw [decide_eq_false h]
    exact iteT (h1 h)
/-- the test of a while whose parts are plain -/
theorem while_n {c : TT} {tb : TS} {D : Ends} {σ : St} {H : Hp} (Pv : Nat → St → Hp → Prop) (h0 : ∃ m, Pv m σ H)
    (hs : ∀ m σ H, Pv m σ H → c σ H fun b H1 => if b = true then ∃ N : St → Hp → Prop, (∀ σ' H', N σ' H' → ∃ m', m' < m ∧ Pv m' σ' H') ∧ tb { D with nx := N, ct := N, bk := D.nx } σ H1 else D.nx σ H1) : tWhile c tb D σ H := ⟨Pv, h0, hs⟩
theorem alloc_new {H : Hp} {o : HO} {Q : V → Hp → Prop} (h : ∀ p H', Same H H' → H p = none → H' p = some o → Q (.ref p) H') : ∀ p, H p = none → Q (.ref p) (upd H p o) := fun p hp =>
  h p _ (fun b u e => by rw [upd_ne (ne_of_none e hp)]; exact e) hp upd_same
theorem Same.rfl' {H : Hp} : Same H H := fun _ _ h => h
theorem Same.tr {H H1 H2 : Hp} (a : Same H H1) (b : Same H1 H2) : Same H H2 := fun x o h => b x o (a x o h)
/-! ### new objects: the heap behind is any that keeps what stood and holds the new one -/
/-- what is wanted of a new object o over H -/
def newO (o : HO) (H : Hp) (Q : VK) : Prop := ∀ p H', Same H H' → H p = none → H' p = some o → Q (.ref p) H'
theorem newO.at {o : HO} {H : Hp} {Q : VK} (h : newO o H Q) {p : Addr} (hp : H p = none) : Q (.ref p) (upd H p o) :=
  h p _ (fun b u e => by rw [upd_ne (ne_of_none e hp)]; exact e) hp upd_same
def nTup (t : TA) : TE := fun σ H Q => t σ H fun xs H1 => xs.length ≤ 100000 ∧ newO (.tup xs) H1 Q
def nLst (t : TA) : TE := fun σ H Q => t σ H fun xs H1 => xs.length ≤ 100000 ∧ newO (.lst xs) H1 Q
theorem sz_of {n : Nat} (h : n ≤ 100000) : n ≤ sizeLine := Nat.le_trans h (by decide)
section
variable {X : Cx} {e : Expr} {es : List Expr} {t : TA} {pos : Pos}
theorem n_tup {x1} (h : PA X es t) : PE X (.Tuple es x1 pos) (nTup t) := by
  refine ⟨fun pins s σ H Q I hq => ?_⟩
  refine wpAny_Tuple_spliced (thn (h.run pos pins s σ H _ I hq) fun us s1 ⟨xs, H1, I1, r, z, q⟩ => ⟨by rw [← r.length]; exact sz_of z, ?_⟩)
  have hf : H1 s1.heap.objs.size = none := I1.hok.fresh (Nat.le_refl _)
  refine ⟨.ref s1.heap.objs.size, upd H1 s1.heap.objs.size (.tup xs), I1.laid (t' := s1.toks) (fun b u e => Heap.get?_push_of_some _ e) (Nat.le_refl _) ?_, rfl, q.at hf⟩
  exact ⟨sz_of z, us, r, ⟨_, Heap.get?_push_size _ rfl, rfl, _, rfl⟩⟩
theorem n_lst (h : PA X es t) : PE X (.List es pos) (nLst t) := by
  refine ⟨fun pins s σ H Q I hq => ?_⟩
  refine wpAny_List_spliced (thn (h.run pos pins s σ H _ I hq) fun us s1 ⟨xs, H1, I1, r, z, q⟩ => ⟨by rw [← r.length]; exact sz_of z, ?_⟩)
  have hf : H1 s1.heap.objs.size = none := I1.hok.fresh (Nat.le_refl _)
  refine ⟨.ref s1.heap.objs.size, upd H1 s1.heap.objs.size (.lst xs), I1.laid (t' := s1.toks) (fun b u e => Heap.get?_push_of_some _ e) (Nat.le_refl _) ?_, rfl, q.at hf⟩
  exact ⟨sz_of z, us, 0, r, Heap.get?_push_size _ rfl⟩
end
/-! ### an object of an own class whose __init__ stores its fields -/
/-- the promise of an __init__ that makes of its arguments the fields fs -/
def spIn (C : Addr) (ok : List V → List (Str × V) → Prop) : Sp := fun vs H Q _ => ∃ (H0 : Hp) (p dx : Addr) (args : List V) (fs : List (Str × V)), vs = .ref p :: args ∧ Same H0 H ∧ H0 p = none ∧ H p = some (.ins C dx []) ∧ ok args fs ∧
  ∀ H', Same H0 H' → H' p = some (.ins C dx fs) → Q .non H'
/-- what is wanted of a new instance over H -/
def newI (C : Addr) (fs : List (Str × V)) (H : Hp) (Q : VK) : Prop := ∀ p dx H', Same H H' → H p = none → H' p = some (.ins C dx fs) → Q (.ref p) H'
def nMake (C : Addr) (ok : List V → List (Str × V) → Prop) (t : TA) : TE := fun σ H Q => t σ H fun vs H1 => ∃ fs, ok vs fs ∧ newI C fs H1 Q
section
variable {X : Cx} {x : Str} {e : Expr} {es : List Expr} {t : TA} {p pos : Pos} {C f : Addr} {fd : FuncData} {ps : List Str} {k : Nat} {ok : List V → List (Str × V) → Prop}
theorem n_make (M : Mk X.K C f) (F : FnOk X.prog X.w X.K X.mg X.base CX0 k f fd ps (spIn C ok)) (hr : Room (k + 1) X.A) (hg : Gl X x) (hm : X.mg x = some (.ref C)) (hb : Binds X.K fd ps [])
    (ha : PA X (e :: es) t) (hdb : (x == ("__debug__" : Str)) = false := by decide) (he : starEach (e :: es) X.env = (false, eval e X.env) :: starEach es X.env := by rfl) (hpl : (backTo pos (starEach es X.env)).any (·.1) = false := by rfl) :
    PE X (.Call (.Name x p) (e :: es) [] pos) (nMake C ok t) := by
  refine ⟨fun pins s σ H Q I h => ?_⟩
  refine wpAny_Call_Name_kw (ld_glob I hg hm ?_ hdb)
  refine PySem.W.callWith_K (h₀ := X.base) I.ok.mod.kin M.kp (thn (ha.run pos pins s σ H _ I h) fun us s1 ⟨vs, H1, I1, r, q⟩ => ⟨I1.kIn, ?_⟩) he hpl
  refine run_make (dvs := []) (E := fun _ _ _ => False) M F hr hb .nil (fun _ _ _ _ _ _ _ z => False.elim z) I1 r ?_
  intro x dx hx hdx ne
  obtain ⟨fs, ho, hn⟩ := q
  refine ⟨H1, x, dx, vs, fs, by rw [List.append_nil], ?_, hx, upd_same, ho, fun H' s' e' => ⟨rfl, hn x dx H' s' hx e'⟩⟩
  intro b o e
  rw [upd_ne (ne_of_none e hx), upd_ne (ne_of_none e hdx)]
  exact e
end
/-! ### isinstance of flat values -/
def flat4 : V → Bool
  | .non => true
  | .bl _ => true
  | .int _ => true
  | .str _ => true
  | _ => false
def isInt : V → Bool
  | .int _ => true
  | _ => false
def isBl : V → Bool
  | .bl _ => true
  | _ => false
def isStr : V → Bool
  | .str _ => true
  | _ => false
def isNum : V → Bool
  | .int _ => true
  | .bl _ => true
  | _ => false
theorem kb1 : kitB "int" "int" = some true := by decide +kernel
theorem kb2 : kitB "int" "bool" = some false := by decide +kernel
theorem kb3 : kitB "int" "str" = some false := by decide +kernel
theorem kb4 : kitB "bool" "int" = some true := by decide +kernel
theorem kb5 : kitB "bool" "bool" = some true := by decide +kernel
theorem kb6 : kitB "bool" "str" = some false := by decide +kernel
theorem kb7 : kitB "str" "int" = some false := by decide +kernel
theorem kb8 : kitB "str" "bool" = some false := by decide +kernel
theorem kb9 : kitB "str" "str" = some true := by decide +kernel
theorem kb10 : kitB "NoneType" "int" = some false := by decide +kernel
theorem kb11 : kitB "NoneType" "bool" = some false := by decide +kernel
theorem kb12 : kitB "NoneType" "str" = some false := by decide +kernel
theorem kb13 : kitB "tuple" "tuple" = some true := by decide +kernel
theorem kb14 : kitB "list" "tuple" = some false := by decide +kernel
theorem kb15 : kitB "list" "list" = some true := by decide +kernel
theorem kb16 : kitB "tuple" "list" = some false := by decide +kernel
theorem kb17 : kitB "int" "tuple" = some false := by decide +kernel
theorem kb18 : kitB "str" "tuple" = some false := by decide +kernel
def rIsF (n : String) (f : V → Bool) : List V → Hp → VK → Prop := fun xs H Q => ∃ x, xs = [x, .ty n] ∧ flat4 x = true ∧ Q (.bl (f x)) H
section
variable {X : Cx}
theorem CallR.imp {f : Value} {r r' : List V → Hp → VK → Prop} (h : CallR X f r) (i : ∀ xs H Q, r' xs H Q → r xs H Q) : CallR X f r' := fun pins s σ H xs us Q I rr q => h pins s σ H xs us Q I rr (i xs H Q q)
theorem isi_int : CallR X (.builtin "isinstance") (rIsF "int" isNum) := CallR.imp call_isi fun xs H Q h => by
  obtain ⟨x, rfl, hf, q⟩ := h
  cases x with
  | non => exact ⟨_, _, _, _, _, rfl, .ty _, .base .non, kit_ty kb10, q⟩
  | bl b => exact ⟨_, _, _, _, _, rfl, .ty _, .base (.bl b), kit_ty kb4, q⟩
  | int i => exact ⟨_, _, _, _, _, rfl, .ty _, .base (.int i), kit_ty kb1, q⟩
  | str z => exact ⟨_, _, _, _, _, rfl, .ty _, .base (.str z), kit_ty kb7, q⟩
  | _ => cases hf
theorem isi_bool : CallR X (.builtin "isinstance") (rIsF "bool" isBl) := CallR.imp call_isi fun xs H Q h => by
  obtain ⟨x, rfl, hf, q⟩ := h
  cases x with
  | non => exact ⟨_, _, _, _, _, rfl, .ty _, .base .non, kit_ty kb11, q⟩
  | bl b => exact ⟨_, _, _, _, _, rfl, .ty _, .base (.bl b), kit_ty kb5, q⟩
  | int i => exact ⟨_, _, _, _, _, rfl, .ty _, .base (.int i), kit_ty kb2, q⟩
  | str z => exact ⟨_, _, _, _, _, rfl, .ty _, .base (.str z), kit_ty kb8, q⟩
  | _ => cases hf
theorem isi_str : CallR X (.builtin "isinstance") (rIsF "str" isStr) := CallR.imp call_isi fun xs H Q h => by
  obtain ⟨x, rfl, hf, q⟩ := h
  cases x with
  | non => exact ⟨_, _, _, _, _, rfl, .ty _, .base .non, kit_ty kb12, q⟩
  | bl b => exact ⟨_, _, _, _, _, rfl, .ty _, .base (.bl b), kit_ty kb6, q⟩
  | int i => exact ⟨_, _, _, _, _, rfl, .ty _, .base (.int i), kit_ty kb3, q⟩
  | str z => exact ⟨_, _, _, _, _, rfl, .ty _, .base (.str z), kit_ty kb9, q⟩
  | _ => cases hf
/-- a tuple that stands in H -/
def rIsTup : List V → Hp → VK → Prop := fun xs H Q => ∃ p ys, xs = [.ref p, .ty "tuple"] ∧ H p = some (.tup ys) ∧ Q (.bl true) H
theorem isi_tuple : CallR X (.builtin "isinstance") rIsTup := CallR.imp call_isi fun xs H Q h => by
  obtain ⟨p, ys, rfl, hp, q⟩ := h
  exact ⟨_, _, _, _, _, rfl, .ty _, .base (.tup hp), kit_ty kb13, q⟩
/-- abs, max, min as functions -/
def rAbs : List V → Hp → VK → Prop := fun xs H Q => ∃ i : Int, xs = [.int i] ∧ Q (.int (i.natAbs : Int)) H
theorem abs_i : CallR X (.builtin "abs") rAbs := CallR.imp call_abs fun xs H Q h => by
  obtain ⟨i, rfl, q⟩ := h
  refine ⟨i, rfl, ?_⟩
  have e : (if i < 0 then -i else i) = (i.natAbs : Int) := by split <;> omega
  rw [e]
  exact q
def rMaxI : List V → Hp → VK → Prop := fun xs H Q => ∃ i j : Int, xs = [.int i, .int j] ∧ Q (.int (max i j)) H
theorem max_i (hc : X.calm = true) : CallR X (.builtin "max") rMaxI := CallR.imp (call_max2 hc) fun xs H Q h => by
  obtain ⟨i, j, rfl, q⟩ := h
  refine ⟨i, j, rfl, ?_⟩
  have e : (if j > i then j else i) = max i j := by split <;> omega
  rw [e]
  exact q
def rMinI : List V → Hp → VK → Prop := fun xs H Q => ∃ i j : Int, xs = [.int i, .int j] ∧ Q (.int (min i j)) H
theorem min_i (hc : X.calm = true) : CallR X (.builtin "min") rMinI := CallR.imp (call_min2 hc) fun xs H Q h => by
  obtain ⟨i, j, rfl, q⟩ := h
  refine ⟨i, j, rfl, ?_⟩
  have e : (if j < i then j else i) = min i j := by split <;> omega
  rw [e]
  exact q
/-- int of an int, of a bool -/
def toI : V → Int
  | .int i => i
  | .bl b => if b then 1 else 0
  | _ => 0
def rInt1 : List V → Hp → VK → Prop := fun xs H Q => ∃ x, xs = [x] ∧ isNum x = true ∧ Q (.int (toI x)) H
theorem int_1 : CallR X (.type "int") rInt1 := CallR.imp call_int1 fun xs H Q h => by
  obtain ⟨x, rfl, hn, q⟩ := h
  cases x with
  | int i => exact .inl ⟨i, rfl, q⟩
  | bl b => exact .inr ⟨b, rfl, q⟩
  | _ => cases hn
/-- len of a tuple, a list that stand in H -/
def rLenT : List V → Hp → VK → Prop := fun xs H Q => ∃ p ys, xs = [.ref p] ∧ H p = some (.tup ys) ∧ Q (.int (ys.length : Int)) H
theorem len_t : CallR X (.builtin "len") rLenT := CallR.imp call_len fun xs H Q h => by
  obtain ⟨p, ys, rfl, hp, q⟩ := h
  exact ⟨_, ys.length, rfl, .inr ⟨_, SqT.of hp, rfl⟩, q⟩
def rLenL : List V → Hp → VK → Prop := fun xs H Q => ∃ p ys, xs = [.ref p] ∧ H p = some (.lst ys) ∧ Q (.int (ys.length : Int)) H
theorem len_l : CallR X (.builtin "len") rLenL := CallR.imp call_len fun xs H Q h => by
  obtain ⟨p, ys, rfl, hp, q⟩ := h
  exact ⟨_, ys.length, rfl, .inl ⟨_, SqL.of hp, rfl⟩, q⟩
/-- x in a tuple of flat values that was just laid; in a tuple of the module -/
def inB (x : V) (xs : List V) : Bool := inV x xs
theorem OpR.imp {f : Value → Value → Sem Value} {r r' : R2} (h : OpR X f r) (i : ∀ x y H Q, r' x y H Q → r x y H Q) : OpR X f r' := fun pins s σ H x y v u Q I rx ry q => h pins s σ H x y v u Q I rx ry (i x y H Q q)
def rInT : R2 := fun x y H Q => ∃ p xs, y = .ref p ∧ H p = some (.tup xs) ∧ flatV x = true ∧ xs.all flatV = true ∧ Q (.bl (inV x xs)) H
def rNiT : R2 := fun x y H Q => ∃ p xs, y = .ref p ∧ H p = some (.tup xs) ∧ flatV x = true ∧ xs.all flatV = true ∧ Q (.bl (!inV x xs)) H
theorem in_t : OpR X (compareOp .In) rInT := OpR.imp op_in_seq fun x y H Q h => by
  obtain ⟨p, xs, rfl, hp, h1, h2, q⟩ := h
  exact ⟨p, xs, rfl, .inr (SqT.of hp), h1, h2, q⟩
theorem ni_t : OpR X (compareOp .NotIn) rNiT := OpR.imp op_notIn_seq fun x y H Q h => by
  obtain ⟨p, xs, rfl, hp, h1, h2, q⟩ := h
  exact ⟨p, xs, rfl, .inr (SqT.of hp), h1, h2, q⟩
/-- t[i] of a tuple, xs[i] of a list that stand in H -/
def rIxTu : R2 := fun x y H Q => ∃ p xs i v, x = .ref p ∧ y = .int i ∧ H p = some (.tup xs) ∧ atI xs i = some v ∧ Q v H
def rIxLi : R2 := fun x y H Q => ∃ p xs i v, x = .ref p ∧ y = .int i ∧ H p = some (.lst xs) ∧ atI xs i = some v ∧ Q v H
theorem ix_t : IxR X rIxTu := fun value slice pins s σ H x y u v Q I rx ry h hs => by
  obtain ⟨p, xs, i, z, rfl, rfl, hp, ha, q⟩ := h
  exact ix_tup value slice pins s σ H _ _ u v Q I rx ry ⟨p, xs, i, z, rfl, rfl, SqT.of hp, ha, q⟩ hs
theorem ix_l : IxR X rIxLi := fun value slice pins s σ H x y u v Q I rx ry h hs => by
  obtain ⟨p, xs, i, z, rfl, rfl, hp, ha, q⟩ := h
  exact ix_list value slice pins s σ H _ _ u v Q I rx ry ⟨p, xs, i, z, rfl, rfl, SqL.of hp, ha, q⟩ hs
end
theorem str_beq (a z : Str) : (a == z) = decide (z = a) := by
  rw [Bool.eq_iff_iff, beq_iff_eq, decide_eq_true_iff]
  exact eq_comm
def sp_is_integer : Sp := fun vs H Q _ => ∃ x, vs = [x] ∧ flat4 x = true ∧ Q (.bl (isInt x)) H
/-! ### comprehensions as filterMap -/
def lcBody (g : TG) (tt : TT) (te : TE) (vs : List Nat) (σ : L2.St) (x : V) (H : Hp) (yes : V → Hp → Prop) (no : Hp → Prop) : Prop :=
  g x (wipe σ vs) H fun σ2 H2 => wipe σ2 vs = wipe σ vs ∧ tt σ2 H2 fun b H3 => if b = true then te σ2 H3 yes else no H3
theorem take_fm {f : V → Option V} {xs : List V} {i : Nat} {x : V} (h : xs[i]? = some x) : (xs.take (i + 1)).filterMap f = (xs.take i).filterMap f ++ (f x).toList := by
  have hl := (List.getElem?_eq_some_iff.mp h)
  obtain ⟨hi, hx⟩ := hl
  rw [List.take_succ, h, List.filterMap_append]
  cases e : f x <;> simp [e]
theorem lc_fm {K : PySem.W.Frag} {a : Addr} {xs : List V} {g : TG} {tt : TT} {te : TE} {vs : List Nat} {σ : L2.St} {H1 : Hp} {Q : VK} (f : V → Option V) (hx : SqL K H1 a xs) (hn : xs.length ≤ 100000)
    (step : ∀ x, x ∈ xs → ∀ H, Same H1 H → ∀ (yes : V → Hp → Prop) (no : Hp → Prop), (∀ y, f x = some y → ∀ H', Same H H' → yes y H') → (f x = none → ∀ H', Same H H' → no H') → lcBody g tt te vs σ x H yes no)
    (fin : newO (.lst (xs.filterMap f)) H1 Q) :
    ∀ D, H1 D = none → ∃ W : Nat → Nat → Hp → Prop, (∃ m, W 0 m (upd H1 D (.lst []))) ∧ ∀ i m H, W i m H →
      ((Itl K a).stop i H ∧ Q (.ref D) H) ∨ ((Itl K a).go i H ∧ ∃ Nx : Hp → Prop, (∀ H', Nx H' → ∃ m', m' < m ∧ W (i + 1) m' H') ∧ ∀ x H', (Itl K a).yld i H x H' → g x (wipe σ vs) H' fun σ2 H2 => wipe σ2 vs = wipe σ vs ∧ tt σ2 H2 fun b H3 =>
        if b = true then te σ2 H3 fun y H4 => ∃ acc, H4 D = some (.lst acc) ∧ acc.length < sizeLine ∧ Nx (upd H4 D (.lst (acc ++ [y]))) else Nx H3) := by
  intro D hD
  have sq : ∀ H, Same H1 H → SqL K H a xs := fun H e => Same.seq e hx
  refine lc_list (K := K) (a := a) (xs := xs) (Qd := fun H => Q (.ref D) H) (fun i H => Same H1 H ∧ H D = some (.lst ((xs.take i).filterMap f))) ⟨fun b o e => by rw [upd_ne (ne_of_none e hD)]; exact e, upd_same⟩ (fun i H _ p => sq H p.1) ?_ ?_
  · intro i x H hi p
    obtain ⟨s1, d1⟩ := p
    have hm : x ∈ xs := List.mem_of_getElem? hi
    refine step x hm H s1 _ _ (fun y hy H' e' => ?_) (fun hy H' e' => ?_)
    · refine ⟨_, e' _ _ d1, ?_, ?_, ?_⟩
      · have h1 : ((xs.take i).filterMap f).length ≤ (xs.take i).length := List.length_filterMap_le f _
        have h2 : (xs.take i).length ≤ xs.length := by rw [List.length_take]; exact Nat.min_le_right ..
        exact Nat.lt_of_le_of_lt (Nat.le_trans (Nat.le_trans h1 h2) hn) (by decide)
      · intro b o e
        rw [upd_ne (ne_of_none e hD)]
        exact e' _ _ (s1 _ _ e)
      · rw [upd_same, take_fm hi, hy]
        rfl
    · refine ⟨Same.tr s1 e', ?_⟩
      rw [e' _ _ d1, take_fm hi, hy]
      simp
  · intro H p
    obtain ⟨s1, d1⟩ := p
    rw [List.take_length] at d1
    exact fin D H s1 hD d1
theorem lc_fmT {K : PySem.W.Frag} {a : Addr} {xs : List V} {g : TG} {tt : TT} {te : TE} {vs : List Nat} {σ : L2.St} {H1 : Hp} {Q : VK} (f : V → Option V) (hx : SqT K H1 a xs) (hn : xs.length ≤ 100000)
    (step : ∀ x, x ∈ xs → ∀ H, Same H1 H → ∀ (yes : V → Hp → Prop) (no : Hp → Prop), (∀ y, f x = some y → ∀ H', Same H H' → yes y H') → (f x = none → ∀ H', Same H H' → no H') → lcBody g tt te vs σ x H yes no)
    (fin : newO (.lst (xs.filterMap f)) H1 Q) :
    ∀ D, H1 D = none → ∃ W : Nat → Nat → Hp → Prop, (∃ m, W 0 m (upd H1 D (.lst []))) ∧ ∀ i m H, W i m H →
      ((Itt K a).stop i H ∧ Q (.ref D) H) ∨ ((Itt K a).go i H ∧ ∃ Nx : Hp → Prop, (∀ H', Nx H' → ∃ m', m' < m ∧ W (i + 1) m' H') ∧ ∀ x H', (Itt K a).yld i H x H' → g x (wipe σ vs) H' fun σ2 H2 => wipe σ2 vs = wipe σ vs ∧ tt σ2 H2 fun b H3 =>
        if b = true then te σ2 H3 fun y H4 => ∃ acc, H4 D = some (.lst acc) ∧ acc.length < sizeLine ∧ Nx (upd H4 D (.lst (acc ++ [y]))) else Nx H3) := by
  intro D hD
  have sq : ∀ H, Same H1 H → SqT K H a xs := fun H e => Evl.ex_t e hx
  refine lc_tup (K := K) (a := a) (xs := xs) (Qd := fun H => Q (.ref D) H) (fun i H => Same H1 H ∧ H D = some (.lst ((xs.take i).filterMap f))) ⟨fun b o e => by rw [upd_ne (ne_of_none e hD)]; exact e, upd_same⟩ (fun i H _ p => sq H p.1) ?_ ?_
  · intro i x H hi p
    obtain ⟨s1, d1⟩ := p
    have hm : x ∈ xs := List.mem_of_getElem? hi
    refine step x hm H s1 _ _ (fun y hy H' e' => ?_) (fun hy H' e' => ?_)
    · refine ⟨_, e' _ _ d1, ?_, ?_, ?_⟩
      · have h1 : ((xs.take i).filterMap f).length ≤ (xs.take i).length := List.length_filterMap_le f _
        have h2 : (xs.take i).length ≤ xs.length := by rw [List.length_take]; exact Nat.min_le_right ..
        exact Nat.lt_of_le_of_lt (Nat.le_trans (Nat.le_trans h1 h2) hn) (by decide)
      · intro b o e
        rw [upd_ne (ne_of_none e hD)]
        exact e' _ _ (s1 _ _ e)
      · rw [upd_same, take_fm hi, hy]
        rfl
    · refine ⟨Same.tr s1 e', ?_⟩
      rw [e' _ _ d1, take_fm hi, hy]
      simp
  · intro H p
    obtain ⟨s1, d1⟩ := p
    rw [List.take_length] at d1
    exact fin D H s1 hD d1
/-! ### x in T, T a tuple of the module -/
def nIn (xs : List V) (te : TE) : TE := fun σ H Q => te σ H fun x H1 => flatV x = true ∧ Q (.bl (inV x xs)) H1
def nNi (xs : List V) (te : TE) : TE := fun σ H Q => te σ H fun x H1 => flatV x = true ∧ Q (.bl (!inV x xs)) H1
section
variable {X : Cx} {e : Expr} {te : TE} {x : Str} {p pos : Pos} {a : Addr} {xs : List V}
theorem pe_inG (he : PE X e te) (hg : Gl X x) (hm : X.mg x = some (.ref a)) (hx : ∀ H, SqT X.K H a xs) (hf : xs.all flatV = true := by rfl) (hd : (x == ("__debug__" : Str)) = false := by decide) : PE X (.Compare e [.In] [.Name x p] pos) (nIn xs te) := by
  refine ⟨fun pins s σ H Q I h => ?_⟩
  refine wpAny_Compare1 (thn (he.run pins s σ H _ I h) fun v s1 ⟨y, H1, I1, r1, q1⟩ => thn ((pe_gR hg hm hd (pos := p)).run pins s1 σ H1 (fun z H2 => z = .ref a ∧ H2 = H1) I1 ⟨rfl, rfl⟩) fun u s2 ⟨z, H2, I2, r2, e1, e2⟩ => ?_) rfl
  subst e1 e2
  exact op_in_seq pins s2 σ H2 y _ v u Q I2 r1 r2 ⟨a, xs, rfl, .inr (hx H2), q1.1, hf, q1.2⟩
theorem pe_niG (he : PE X e te) (hg : Gl X x) (hm : X.mg x = some (.ref a)) (hx : ∀ H, SqT X.K H a xs) (hf : xs.all flatV = true := by rfl) (hd : (x == ("__debug__" : Str)) = false := by decide) : PE X (.Compare e [.NotIn] [.Name x p] pos) (nNi xs te) := by
  refine ⟨fun pins s σ H Q I h => ?_⟩
  refine wpAny_Compare1 (thn (he.run pins s σ H _ I h) fun v s1 ⟨y, H1, I1, r1, q1⟩ => thn ((pe_gR hg hm hd (pos := p)).run pins s1 σ H1 (fun z H2 => z = .ref a ∧ H2 = H1) I1 ⟨rfl, rfl⟩) fun u s2 ⟨z, H2, I2, r2, e1, e2⟩ => ?_) rfl
  subst e1 e2
  exact op_notIn_seq pins s2 σ H2 y _ v u Q I2 r1 r2 ⟨a, xs, rfl, .inr (hx H2), q1.1, hf, q1.2⟩
end
def nInT (xs : List V) (te : TE) : TT := fun σ H Q => te σ H fun x H1 => flatV x = true ∧ Q (inV x xs) H1
def nNiT (xs : List V) (te : TE) : TT := fun σ H Q => te σ H fun x H1 => flatV x = true ∧ Q (!inV x xs) H1
section
variable {X : Cx} {e : Expr} {te : TE} {x : Str} {p pos : Pos} {a : Addr} {xs : List V}
theorem pt_inG (he : PE X e te) (hg : Gl X x) (hm : X.mg x = some (.ref a)) (hx : ∀ H, SqT X.K H a xs) (hf : xs.all flatV = true := by rfl) (hd : (x == ("__debug__" : Str)) = false := by decide) : PT X (.Compare e [.In] [.Name x p] pos) (nInT xs te) := by
  refine ⟨fun pins s σ H Q I h => ?_⟩
  refine wpAny_isTrue_Compare1 (thn (he.run pins s σ H _ I h) fun v s1 ⟨y, H1, I1, r1, q1⟩ => thn ((pe_gR hg hm hd (pos := p)).run pins s1 σ H1 (fun z H2 => z = .ref a ∧ H2 = H1) I1 ⟨rfl, rfl⟩) fun u s2 ⟨z, H2, I2, r2, e1, e2⟩ => ?_) rfl
  subst e1 e2
  refine thn (op_in_seq pins s2 σ H2 y _ v u (fun z H' => ∃ k, z = .bl k ∧ Q k H') I2 r1 r2 ⟨a, xs, rfl, .inr (hx H2), q1.1, hf, _, rfl, q1.2⟩) fun c s3 ⟨z, H3, I3, r3, k, e, q3⟩ => ?_
  subst e
  cases r3
  exact wpAny_truthy_bool ⟨H3, I3, q3⟩
theorem pt_niG (he : PE X e te) (hg : Gl X x) (hm : X.mg x = some (.ref a)) (hx : ∀ H, SqT X.K H a xs) (hf : xs.all flatV = true := by rfl) (hd : (x == ("__debug__" : Str)) = false := by decide) : PT X (.Compare e [.NotIn] [.Name x p] pos) (nNiT xs te) := by
  refine ⟨fun pins s σ H Q I h => ?_⟩
  refine wpAny_isTrue_Compare1 (thn (he.run pins s σ H _ I h) fun v s1 ⟨y, H1, I1, r1, q1⟩ => thn ((pe_gR hg hm hd (pos := p)).run pins s1 σ H1 (fun z H2 => z = .ref a ∧ H2 = H1) I1 ⟨rfl, rfl⟩) fun u s2 ⟨z, H2, I2, r2, e1, e2⟩ => ?_) rfl
  subst e1 e2
  refine thn (op_notIn_seq pins s2 σ H2 y _ v u (fun z H' => ∃ k, z = .bl k ∧ Q k H') I2 r1 r2 ⟨a, xs, rfl, .inr (hx H2), q1.1, hf, _, rfl, q1.2⟩) fun c s3 ⟨z, H3, I3, r3, k, e, q3⟩ => ?_
  subst e
  cases r3
  exact wpAny_truthy_bool ⟨H3, I3, q3⟩
end
/-! ### isinstance against an own class -/
structure OwnC (K : PySem.W.Frag) (C : Addr) : Prop where
  ha : PySem.W.findIn K (.ref C) "__class__" = some (some (.builtin "object.__class__"))
  hn : PySem.W.specialIn K (.builtin "object.__class__") "__get__" = some (some (.builtin "getset_descriptor.__get__"))
  ht : PySem.W.takesIn K (.builtin "object.__class__") = some true
  hm : PySem.W.mroIn K C (.type "object") = some true
  self : PySem.W.kitOne K (.ref C) (.ref C) = some true
  int : PySem.W.kitOne K (.type "int") (.ref C) = some false
  str : PySem.W.kitOne K (.type "str") (.ref C) = some false
def ownB (K : PySem.W.Frag) (C : Addr) : Bool := He.eqO (PySem.W.findIn K (.ref C) "__class__") (some (some (.builtin "object.__class__"))) && (He.eqO (PySem.W.specialIn K (.builtin "object.__class__") "__get__") (some (some (.builtin "getset_descriptor.__get__"))) &&
  (decide (PySem.W.takesIn K (.builtin "object.__class__") = some true) && (decide (PySem.W.mroIn K C (.type "object") = some true) && (decide (PySem.W.kitOne K (.ref C) (.ref C) = some true) && (decide (PySem.W.kitOne K (.type "int") (.ref C) = some false) && decide (PySem.W.kitOne K (.type "str") (.ref C) = some false))))))
theorem ownB_ok {K : PySem.W.Frag} {C : Addr} (h : ownB K C = true) : OwnC K C := by
  obtain ⟨h1, h⟩ := He.ba h
  obtain ⟨h2, h⟩ := He.ba h
  obtain ⟨h3, h⟩ := He.ba h
  obtain ⟨h4, h⟩ := He.ba h
  obtain ⟨h5, h⟩ := He.ba h
  obtain ⟨h6, h7⟩ := He.ba h
  exact ⟨He.eqO_ok h1, He.eqO_ok h2, of_decide_eq_true h3, of_decide_eq_true h4, of_decide_eq_true h5, of_decide_eq_true h6, of_decide_eq_true h7⟩
/-- an instance of the class at C, or an int -/
def rIsOwn (C : Addr) : List V → Hp → VK → Prop := fun xs H Q => (∃ p dx fs, xs = [.ref p, .ref C] ∧ H p = some (.ins C dx fs) ∧ Q (.bl true) H) ∨ (∃ i : Int, xs = [.int i, .ref C] ∧ Q (.bl false) H)
theorem isi_own {X : Cx} {C : Addr} (cl : Cls X.K C) (o : OwnC X.K C) : CallR X (.builtin "isinstance") (rIsOwn C) := CallR.imp call_isi fun xs H Q h => by
  rcases h with ⟨p, dx, fs, rfl, hp, q⟩ | ⟨i, rfl, q⟩
  · exact ⟨_, _, _, _, _, rfl, .own C, .base (.ins hp cl o.ha o.hn o.ht o.hm), o.self, q⟩
  · exact ⟨_, _, _, _, _, rfl, .own C, .base (.int i), o.int, q⟩
theorem sc_ii {a b : Int} : scal (.int a) (.int b) = true := rfl
theorem sc_ss {a b : Str} : scal (.str a) (.str b) = true := rfl
theorem sc_is {a : Int} {b : Str} : scal (.int a) (.str b) = true := rfl
theorem sc_si {a : Str} {b : Int} : scal (.str a) (.int b) = true := rfl
theorem sc_bb {a b : Bool} : scal (.bl a) (.bl b) = true := rfl
/-! ### comprehensions over a local name, as rules -/
theorem PE.imp {X : Cx} {e : Expr} {t t' : TE} (h : PE X e t) (i : ∀ σ H Q, t' σ H Q → t σ H Q) : PE X e t' := ⟨fun pins s σ H Q I q => h.run pins s σ H Q I (i σ H Q q)⟩
theorem PS.imp {X : Cx} {e : Stmt} {t t' : TS} (h : PS X e t) (i : ∀ D σ H, t' D σ H → t D σ H) : PS X e t' := ⟨fun pins s σ H D I q => h.run pins s σ H D I (i D σ H q)⟩
def lcStep (g : TG) (tt : TT) (te : TE) (vs : List Nat) (σ : L2.St) (xs : List V) (f : V → Option V) (H1 : Hp) : Prop :=
  ∀ x, x ∈ xs → ∀ H, Same H1 H → ∀ (yes : V → Hp → Prop) (no : Hp → Prop), (∀ y, f x = some y → ∀ H', Same H H' → yes y H') → (f x = none → ∀ H', Same H H' → no H') → lcBody g tt te vs σ x H yes no
def nLcL (j : Nat) (g : TG) (tt : TT) (te : TE) (vs : List Nat) : TE := fun σ H Q => ∃ a xs f, σ[j]? = some (some (.ref a)) ∧ H a = some (.lst xs) ∧ xs.length ≤ 100000 ∧ lcStep g tt te vs σ xs f H ∧ newO (.lst (xs.filterMap f)) H Q
def nLcT (j : Nat) (g : TG) (tt : TT) (te : TE) (vs : List Nat) : TE := fun σ H Q => ∃ a xs f, σ[j]? = some (some (.ref a)) ∧ H a = some (.tup xs) ∧ xs.length ≤ 100000 ∧ lcStep g tt te vs σ xs f H ∧ newO (.lst (xs.filterMap f)) H Q
theorem lcL_imp {K : PySem.W.Frag} {j : Nat} {g : TG} {tt : TT} {te : TE} {vs : List Nat} (σ : L2.St) (H : Hp) (Q : VK) (h : nLcL j g tt te vs σ H Q) : tLc (iList K (tVar j)) g tt te vs σ H Q := by
  obtain ⟨a, xs, f, h1, h2, h3, h4, h5⟩ := h
  exact ⟨_, h1, a, rfl, ⟨xs, SqL.of h2⟩, lc_fm f (SqL.of h2) h3 h4 h5⟩
theorem lcT_imp {K : PySem.W.Frag} {j : Nat} {g : TG} {tt : TT} {te : TE} {vs : List Nat} (σ : L2.St) (H : Hp) (Q : VK) (h : nLcT j g tt te vs σ H Q) : tLc (iTup K (tVar j)) g tt te vs σ H Q := by
  obtain ⟨a, xs, f, h1, h2, h3, h4, h5⟩ := h
  exact ⟨_, h1, a, rfl, ⟨xs, SqT.of h2⟩, lc_fmT f (SqT.of h2) h3 h4 h5⟩
theorem n_lcL {X : Cx} {e : Expr} {j : Nat} {g : TG} {tt : TT} {te : TE} {vs : List Nat} (h : PE X e (tLc (iList X.K (tVar j)) g tt te vs)) : PE X e (nLcL j g tt te vs) := PE.imp h lcL_imp
theorem n_lcT {X : Cx} {e : Expr} {j : Nat} {g : TG} {tt : TT} {te : TE} {vs : List Nat} (h : PE X e (tLc (iTup X.K (tVar j)) g tt te vs)) : PE X e (nLcT j g tt te vs) := PE.imp h lcT_imp
theorem n_setL {X : Cx} {e : Stmt} {i j : Nat} {g : TG} {tt : TT} {te : TE} {vs : List Nat} (h : PS X e (tAsg (tLc (iList X.K (tVar j)) g tt te vs) (gName i))) : PS X e (tAsg (nLcL j g tt te vs) (gName i)) := PS.imp h fun _ σ H q => lcL_imp σ H _ q
theorem n_setT {X : Cx} {e : Stmt} {i j : Nat} {g : TG} {tt : TT} {te : TE} {vs : List Nat} (h : PS X e (tAsg (tLc (iTup X.K (tVar j)) g tt te vs) (gName i))) : PS X e (tAsg (nLcT j g tt te vs) (gName i)) := PS.imp h fun _ σ H q => lcT_imp σ H _ q
/-! ### dict comprehensions over a local tuple, sorted of a dict, tuple of a list -/
def dcBody (g : TG) (tt : TT) (tk tv : TE) (vs : List Nat) (σ : L2.St) (x : V) (H : Hp) (yes : V → V → Hp → Prop) (no : Hp → Prop) : Prop :=
  g x (wipe σ vs) H fun σ2 H2 => wipe σ2 vs = wipe σ vs ∧ tt σ2 H2 fun b H3 => if b = true then tk σ2 H3 fun y H4 => tv σ2 H4 fun z H5 => yes y z H5 else no H3
def dcStep (g : TG) (tt : TT) (tk tv : TE) (vs : List Nat) (σ : L2.St) (xs : List V) (f : V → Option (Key × V)) (H1 : Hp) : Prop :=
  ∀ x, x ∈ xs → ∀ H, Same H1 H → ∀ (yes : V → V → Hp → Prop) (no : Hp → Prop), (∀ k y, f x = some (k, y) → ∀ H', Same H H' → yes (kV k) y H') → (f x = none → ∀ H', Same H H' → no H') → dcBody g tt tk tv vs σ x H yes no
theorem take_fmK {f : V → Option (Key × V)} {xs : List V} {i : Nat} {x : V} (h : xs[i]? = some x) : (xs.take (i + 1)).filterMap f = (xs.take i).filterMap f ++ (f x).toList := by
  rw [List.take_succ, h, List.filterMap_append]
  cases e : f x <;> simp [e]
theorem merge_length (kvs : List (Key × V)) : ∀ more : List (Key × V), (mergeK kvs more).length ≤ kvs.length + more.length := by
  intro more
  induction more generalizing kvs with
  | nil => simp [mergeK]
  | cons p r ih =>
    have h1 := ih (putK kvs p.1 p.2)
    have h2 := length_putK kvs p.1 p.2
    show (mergeK (putK kvs p.1 p.2) r).length ≤ _
    simp only [List.length_cons]
    omega
theorem merge_snoc (kvs more : List (Key × V)) (k : Key) (v : V) : mergeK kvs (more ++ [(k, v)]) = putK (mergeK kvs more) k v := by
  unfold mergeK
  rw [List.foldl_append]
  rfl
theorem dc_fmT {K : PySem.W.Frag} {a : Addr} {xs : List V} {g : TG} {tt : TT} {tk tv : TE} {vs : List Nat} {σ : L2.St} {H1 : Hp} {Q : VK} (f : V → Option (Key × V)) (hx : SqT K H1 a xs) (hn : xs.length ≤ 100000)
    (step : dcStep g tt tk tv vs σ xs f H1) (fin : newO (.dK (mergeK [] (xs.filterMap f))) H1 Q) :
    ∀ D, H1 D = none → ∃ W : Nat → Nat → Hp → Prop, (∃ m, W 0 m (upd H1 D (.dK []))) ∧ ∀ i m H, W i m H →
      ((Itt K a).stop i H ∧ Q (.ref D) H) ∨ ((Itt K a).go i H ∧ ∃ Nx : Hp → Prop, (∀ H', Nx H' → ∃ m', m' < m ∧ W (i + 1) m' H') ∧ ∀ x H', (Itt K a).yld i H x H' → g x (wipe σ vs) H' fun σ2 H2 => wipe σ2 vs = wipe σ vs ∧ tt σ2 H2 fun b H3 =>
        if b = true then tk σ2 H3 fun y H4 => tv σ2 H4 fun z H5 => ∃ kvs k, y = kV k ∧ H5 D = some (.dK kvs) ∧ kvs.length < sizeLine ∧ Nx (upd H5 D (.dK (putK kvs k z))) else Nx H3) := by
  intro D hD
  have sq : ∀ H, Same H1 H → SqT K H a xs := fun H e => Evl.ex_t e hx
  refine dc_tup (K := K) (a := a) (xs := xs) (Qd := fun H => Q (.ref D) H) (fun i H => Same H1 H ∧ H D = some (.dK (mergeK [] ((xs.take i).filterMap f)))) ⟨fun b o e => by rw [upd_ne (ne_of_none e hD)]; exact e, upd_same⟩ (fun i H _ p => sq H p.1) ?_ ?_
  · intro i x H hi p
    obtain ⟨s1, d1⟩ := p
    have hm : x ∈ xs := List.mem_of_getElem? hi
    refine step x hm H s1 _ _ (fun k y hy H' e' => ?_) (fun hy H' e' => ?_)
    · refine ⟨_, k, rfl, e' _ _ d1, ?_, ?_, ?_⟩
      · have h0 := merge_length [] ((xs.take i).filterMap f)
        have h1 : ((xs.take i).filterMap f).length ≤ (xs.take i).length := List.length_filterMap_le f _
        have h2 : (xs.take i).length ≤ xs.length := by rw [List.length_take]; exact Nat.min_le_right ..
        have h3 : (100000 : Nat) < sizeLine := by decide
        simp only [List.length_nil] at h0
        omega
      · intro b o e
        rw [upd_ne (ne_of_none e hD)]
        exact e' _ _ (s1 _ _ e)
      · rw [upd_same, take_fmK hi, hy]
        show some (HO.dK _) = some (HO.dK (mergeK [] (_ ++ [(k, y)])))
        rw [merge_snoc]
    · refine ⟨Same.tr s1 e', ?_⟩
      rw [e' _ _ d1, take_fmK hi, hy]
      simp
  · intro H p
    obtain ⟨s1, d1⟩ := p
    rw [List.take_length] at d1
    exact fin D H s1 hD d1
def nDcT (j : Nat) (g : TG) (tt : TT) (tk tv : TE) (vs : List Nat) : TE := fun σ H Q => ∃ a xs, σ[j]? = some (some (.ref a)) ∧ H a = some (.tup xs) ∧ xs.length ≤ 100000 ∧ ∃ f, dcStep g tt tk tv vs σ xs f H ∧ newO (.dK (mergeK [] (xs.filterMap f))) H Q
theorem n_dcT {X : Cx} {e : Expr} {j : Nat} {g : TG} {tt : TT} {tk tv : TE} {vs : List Nat} (h : PE X e (tDc (iTup X.K (tVar j)) g tt tk tv vs)) : PE X e (nDcT j g tt tk tv vs) := PE.imp h fun σ H Q q => by
  obtain ⟨a, xs, h1, h2, h3, f, h4, h5⟩ := q
  exact ⟨_, h1, a, rfl, ⟨xs, SqT.of h2⟩, dc_fmT f (SqT.of h2) h3 h4 h5⟩
section
variable {X : Cx}
def rSortD : List V → Hp → VK → Prop := fun xs H Q => ∃ (a : Addr) (kvs : List (Key × V)) (ks : List Str), xs = [.ref a] ∧ H a = some (.dK kvs) ∧ kvs.map (·.1) = ks.map Sum.inr ∧ ks.length < 64 ∧ ∀ ys : List Str, ys.Perm ks → PyProof.Rows.sortedS ys = true → newO (.lst (ys.map V.str)) H Q
theorem sorted_d (hc : X.calm = true) : CallR X (.builtin "sorted") rSortD := CallR.imp (call_sortedD hc) fun xs H Q h => by
  obtain ⟨a, kvs, ks, rfl, hd, h1, h2, h3⟩ := h
  exact ⟨a, kvs, ks, rfl, .inl hd, h1, h2, fun ys p hp hs np => (h3 ys hp hs).at np⟩
def rTupL : List V → Hp → VK → Prop := fun xs H Q => ∃ p ys, xs = [.ref p] ∧ H p = some (.lst ys) ∧ newO (.tup ys) H Q
theorem tuple_l : CallR X (.type "tuple") rTupL := CallR.imp call_tuple_of fun xs H Q h => by
  obtain ⟨p, ys, rfl, hp, q⟩ := h
  exact ⟨p, ys, rfl, .inl ⟨SqL.of hp, fun l hl => q.at hl⟩⟩
def rListL : List V → Hp → VK → Prop := fun xs H Q => ∃ p ys, xs = [.ref p] ∧ H p = some (.lst ys) ∧ newO (.lst ys) H Q
theorem list_l : CallR X (.type "list") rListL := CallR.imp call_list_of fun xs H Q h => by
  obtain ⟨p, ys, rfl, hp, q⟩ := h
  exact ⟨p, ys, rfl, .inl (SqL.of hp), fun l hl => q.at hl⟩
end
theorem fl_n : flat4 .non = true := rfl
theorem fl_b {b : Bool} : flat4 (.bl b) = true := rfl
theorem fl_i {i : Int} : flat4 (.int i) = true := rfl
theorem fl_s {z : Str} : flat4 (.str z) = true := rfl
theorem fv_n : flatV .non = true := rfl
theorem fv_b {b : Bool} : flatV (.bl b) = true := rfl
theorem fv_i {i : Int} : flatV (.int i) = true := rfl
theorem fv_s {z : Str} : flatV (.str z) = true := rfl
theorem ii_n : isInt .non = false := rfl
theorem ii_b {b : Bool} : isInt (.bl b) = false := rfl
theorem ii_i {i : Int} : isInt (.int i) = true := rfl
theorem ii_s {z : Str} : isInt (.str z) = false := rfl
theorem ib_n : isBl .non = false := rfl
theorem ib_b {b : Bool} : isBl (.bl b) = true := rfl
theorem ib_i {i : Int} : isBl (.int i) = false := rfl
theorem ib_s {z : Str} : isBl (.str z) = false := rfl
theorem is_n : isStr .non = false := rfl
theorem is_b {b : Bool} : isStr (.bl b) = false := rfl
theorem is_i {i : Int} : isStr (.int i) = false := rfl
theorem is_s {z : Str} : isStr (.str z) = true := rfl
theorem im_n : isNum .non = false := rfl
theorem im_b {b : Bool} : isNum (.bl b) = true := rfl
theorem im_i {i : Int} : isNum (.int i) = true := rfl
theorem im_s {z : Str} : isNum (.str z) = false := rfl
theorem ti_i {i : Int} : toI (.int i) = i := rfl
theorem ti_t : toI (.bl true) = 1 := rfl
theorem ti_f : toI (.bl false) = 0 := rfl
theorem newO.ext {o : HO} {H H1 : Hp} {Q : VK} (h : newO o H Q) (e : Same H H1) : newO o H1 Q := fun p H' e' np hp => h p H' (Same.tr e e') (by
  cases q : H p with
  | none => rfl
  | some u =>
    rw [e _ _ q] at np
    cases np) hp
theorem Same.free' {H H1 : Hp} (e : Same H H1) {p : Addr} (h : H1 p = none) : H p = none := by
  cases q : H p with
  | none => rfl
  | some u =>
    rw [e _ _ q] at h
    cases h
theorem kTupLT {K : PySem.W.Frag} : PySem.W.kitAny K (.type "tuple") [.type "list", .type "tuple"] = some true := kitAny_cons (kit_ty kb16) (fun _ => kitAny_cons (kit_ty kb13) (fun h => nomatch h) (fun _ => rfl)) (fun h => nomatch h)
theorem kLstLT {K : PySem.W.Frag} : PySem.W.kitAny K (.type "list") [.type "list", .type "tuple"] = some true := kitAny_cons (kit_ty kb15) (fun h => nomatch h) (fun _ => rfl)
/-! ### for loops, slices, sums of lists -/
def forW (K : PySem.W.Frag) (a : Addr) (g : TG) (tb : TS) (D : Ends) (σ : L2.St) (H1 : Hp) : Prop := ∃ W : Nat → Nat → L2.St → Hp → Prop, (∃ m, W 0 m σ H1) ∧ ∀ i m σ H, W i m σ H →
  ((Itl K a).stop i H ∧ D.nx σ H) ∨ ((Itl K a).go i H ∧ ∃ N : L2.St → Hp → Prop, (∀ σ' H', N σ' H' → ∃ m', m' < m ∧ W (i + 1) m' σ' H') ∧ ∀ x H', (Itl K a).yld i H x H' → g x σ H' fun σ2 H2 => tb { D with nx := N, ct := N, bk := D.nx } σ2 H2)
def nForL (K : PySem.W.Frag) (te : TE) (g : TG) (tb : TS) : TS := fun D σ H => te σ H fun x H1 => ∃ a, x = .ref a ∧ (∃ xs, SqL K H1 a xs) ∧ forW K a g tb D σ H1
theorem n_forL {X : Cx} {st : Stmt} {te : TE} {g : TG} {tb : TS} (h : PS X st (tFor (iList X.K te) g tb)) : PS X st (nForL X.K te g tb) := h
theorem forW_by {K : PySem.W.Frag} {a : Addr} {xs : List V} {g : TG} {tb : TS} {D : Ends} {σ : L2.St} {H : Hp} (Pv : Nat → L2.St → Hp → Prop) (h0 : Pv 0 σ H) (hl : ∀ i σ H, i ≤ xs.length → Pv i σ H → SqL K H a xs)
    (hs : ∀ i x σ H, xs[i]? = some x → Pv i σ H → g x σ H fun σ2 H2 => tb { D with nx := Pv (i + 1), ct := Pv (i + 1), bk := D.nx } σ2 H2) (hd : ∀ σ H, Pv xs.length σ H → D.nx σ H) : forW K a g tb D σ H := for_list Pv h0 hl hs hd
def forR (lo : Int) (n : Nat) (g : TG) (tb : TS) (D : Ends) (σ : L2.St) (H1 : Hp) : Prop := ∃ W : Nat → Nat → L2.St → Hp → Prop, (∃ m, W 0 m σ H1) ∧ ∀ i m σ H, W i m σ H →
  ((Itr lo n).stop i H ∧ D.nx σ H) ∨ ((Itr lo n).go i H ∧ ∃ N : L2.St → Hp → Prop, (∀ σ' H', N σ' H' → ∃ m', m' < m ∧ W (i + 1) m' σ' H') ∧ ∀ x H', (Itr lo n).yld i H x H' → g x σ H' fun σ2 H2 => tb { D with nx := N, ct := N, bk := D.nx } σ2 H2)
def nForR (ta : TA) (g : TG) (tb : TS) : TS := fun D σ H => ta σ H fun vs H1 => ∃ j : Int, vs = [.int j] ∧ -(2 ^ 62) ≤ j ∧ j < 2 ^ 62 ∧ forR 0 j.toNat g tb D σ H1
theorem n_forR {X : Cx} {st : Stmt} {ta : TA} {g : TG} {tb : TS} (h : PS X st (tFor (iRng1 ta) g tb)) : PS X st (nForR ta g tb) := h
theorem forR_by {lo : Int} {n : Nat} {g : TG} {tb : TS} {D : Ends} {σ : L2.St} {H : Hp} (Pv : Nat → L2.St → Hp → Prop) (h0 : Pv 0 σ H)
    (hs : ∀ i σ H, i < n → Pv i σ H → g (.int (lo + i)) σ H fun σ2 H2 => tb { D with nx := Pv (i + 1), ct := Pv (i + 1), bk := D.nx } σ2 H2) (hd : ∀ σ H, Pv n σ H → D.nx σ H) : forR lo n g tb D σ H := for_range Pv h0 hs hd
/-- a comprehension over range(n), its turns by an invariant -/
def lcR (n : Nat) (g : TG) (tt : TT) (te : TE) (vs : List Nat) (σ : L2.St) (H1 : Hp) (Q : VK) : Prop := ∀ D, H1 D = none → ∃ W : Nat → Nat → Hp → Prop, (∃ m, W 0 m (upd H1 D (.lst []))) ∧ ∀ i m H, W i m H →
  ((Itr 0 n).stop i H ∧ Q (.ref D) H) ∨ ((Itr 0 n).go i H ∧ ∃ Nx : Hp → Prop, (∀ H', Nx H' → ∃ m', m' < m ∧ W (i + 1) m' H') ∧ ∀ x H', (Itr 0 n).yld i H x H' → g x (wipe σ vs) H' fun σ2 H2 => wipe σ2 vs = wipe σ vs ∧ tt σ2 H2 fun b H3 =>
    if b = true then te σ2 H3 fun y H4 => ∃ acc, H4 D = some (.lst acc) ∧ acc.length < sizeLine ∧ Nx (upd H4 D (.lst (acc ++ [y]))) else Nx H3)
def nLcR (ta : TA) (g : TG) (tt : TT) (te : TE) (vs : List Nat) : TE := fun σ H Q => ta σ H fun ws H1 => ∃ j : Int, ws = [.int j] ∧ -(2 ^ 62) ≤ j ∧ j < 2 ^ 62 ∧ lcR j.toNat g tt te vs σ H1 Q
theorem n_setR {X : Cx} {st : Stmt} {i : Nat} {ta : TA} {g : TG} {tt : TT} {te : TE} {vs : List Nat} (h : PS X st (tAsg (tLc (iRng1 ta) g tt te vs) (gName i))) : PS X st (tAsg (nLcR ta g tt te vs) (gName i)) := h
theorem n_lcR {X : Cx} {e : Expr} {ta : TA} {g : TG} {tt : TT} {te : TE} {vs : List Nat} (h : PE X e (tLc (iRng1 ta) g tt te vs)) : PE X e (nLcR ta g tt te vs) := h
theorem lcR_by {n : Nat} {g : TG} {tt : TT} {te : TE} {vs : List Nat} {σ : L2.St} {H1 : Hp} {Q : VK} (Pv : Addr → Nat → Hp → Prop) (h0 : ∀ D, H1 D = none → Pv D 0 (upd H1 D (.lst [])))
    (hs : ∀ D i H, H1 D = none → i < n → Pv D i H → g (.int (0 + i)) (wipe σ vs) H fun σ2 H2 => wipe σ2 vs = wipe σ vs ∧ tt σ2 H2 fun b H3 =>
      if b = true then te σ2 H3 fun y H4 => ∃ acc, H4 D = some (.lst acc) ∧ acc.length < sizeLine ∧ Pv D (i + 1) (upd H4 D (.lst (acc ++ [y]))) else Pv D (i + 1) H3) (hd : ∀ D H, H1 D = none → Pv D n H → Q (.ref D) H) : lcR n g tt te vs σ H1 Q :=
  fun D hD => lc_range (Pv D) (h0 D hD) (fun i H hi p => hs D i H hD hi p) fun H p => hd D H hD p
section
variable {X : Cx}
theorem SlR.imp {r r' : V → Option Int → Option Int → Hp → VK → Prop} (h : SlR X r) (i : ∀ x l u H Q, r' x l u H Q → r x l u H Q) : SlR X r' := fun pins s σ H x v vl vu lo hi sl Q I rx hs pl pu q => h pins s σ H x v vl vu lo hi sl Q I rx hs pl pu (i _ _ _ _ _ q)
def rSlN (K : PySem.W.Frag) : V → Option Int → Option Int → Hp → VK → Prop := fun x lo hi H Q => ∃ a xs, x = .ref a ∧ SqL K H a xs ∧ newO (.lst (cutV xs lo hi)) H Q
theorem sl_l : SlR X (rSlN X.K) := SlR.imp sl_list fun x l u H Q h => by
  obtain ⟨a, xs, h1, h2, h3⟩ := h
  exact ⟨a, xs, h1, h2, fun p hp => h3.at hp⟩
def rCatN : R2 := fun x y H Q => ∃ l b xs zs, x = .ref l ∧ y = .ref b ∧ H l = some (.lst xs) ∧ H b = some (.lst zs) ∧ xs.length + zs.length ≤ 100000 ∧ newO (.lst (xs ++ zs)) H Q
theorem cat_l : OpR X (binaryOp .Add) rCatN := OpR.imp op_cat fun x y H Q h => by
  obtain ⟨l, b, xs, zs, h1, h2, h3, h4, h5, h6⟩ := h
  exact ⟨l, b, xs, zs, h1, h2, h3, h4, sz_of h5, fun p hp => h6.at hp⟩
end
/-! ### wells: lists of three ints that are drawn from -/
/-- all but what stands at W is kept -/
def SameX (W : Addr) (H H' : Hp) : Prop := ∀ b o, b ≠ W → H b = some o → H' b = some o
theorem SameX.of {W : Addr} {H H' : Hp} (h : Same H H') : SameX W H H' := fun b o _ e => h b o e
theorem SameX.tr {W : Addr} {H H1 H2 : Hp} (a : SameX W H H1) (b : SameX W H1 H2) : SameX W H H2 := fun x o n h => b x o n (a x o n h)
theorem SameX.upd {W : Addr} {H : Hp} {o : HO} : SameX W H (upd H W o) := fun b u n e => by rw [upd_ne n]; exact e
def IsWell (H : Hp) (W : Addr) (n : Int) : Prop := ∃ a b c : Int, H W = some (.lst [.int a, .int b, .int c]) ∧ 0 ≤ a ∧ 0 ≤ b ∧ b < 4294967296 ∧ 0 ≤ c ∧ 0 ≤ n ∧ c + n ≤ 1000000000
theorem IsWell.mono {H H' : Hp} {W : Addr} {n : Int} (h : IsWell H W n) (e : Same H H') : IsWell H' W n := by
  obtain ⟨a, b, c, h1, h2⟩ := h
  exact ⟨a, b, c, e _ _ h1, h2⟩
theorem IsWell.less {H : Hp} {W : Addr} {n m : Int} (h : IsWell H W n) (h0 : 0 ≤ m) (e : m ≤ n) : IsWell H W m := by
  obtain ⟨a, b, c, h1, h2, h3, h4, h5, h6, h7⟩ := h
  exact ⟨a, b, c, h1, h2, h3, h4, h5, h0, by omega⟩
def sp_well (n : Int) : Sp := fun vs H Q _ => ∃ i, vs = [.int i] ∧ ∀ p H', Same H H' → H p = none → IsWell H' p n → Q (.ref p) H'
def sp_draw : Sp := fun vs H Q _ => ∃ W m n, vs = [.ref W, .int m] ∧ 1 ≤ m ∧ m < 10 ^ 40 ∧ IsWell H W n ∧ 1 ≤ n ∧ ∀ v H', SameX W H H' → IsWell H' W (n - 1) → 0 ≤ v → v < m → Q (.int v) H'
def sp_one : Sp := fun vs H Q _ => ∃ W L xs n, vs = [.ref W, .ref L] ∧ H L = some (.lst xs) ∧ L ≠ W ∧ 0 < xs.length ∧ xs.length ≤ 1000 ∧ IsWell H W n ∧ 1 ≤ n ∧ ∀ v H', SameX W H H' → IsWell H' W (n - 1) → v ∈ xs → Q v H'
theorem divW_small {i j : Int} (h : 1 ≤ j) (h2 : j < 10 ^ 40) : CDivW i j := by
  refine ⟨by omega, ?_⟩
  have h3 : j.natAbs < 2 ^ 160 := by omega
  have hj : j.natAbs ≠ 0 := by omega
  have := (Nat.log2_lt hj).mpr h3
  omega
theorem at3_0 {x y z : V} : atI [x, y, z] 0 = some x := rfl
theorem at3_1 {x y z : V} : atI [x, y, z] 1 = some y := rfl
theorem at3_2 {x y z : V} : atI [x, y, z] 2 = some z := rfl
theorem ix3_0 : ixN 3 0 = some 0 := rfl
theorem ix3_1 : ixN 3 1 = some 1 := rfl
theorem ix3_2 : ixN 3 2 = some 2 := rfl
theorem at2_0 {x y : V} : atI [x, y] 0 = some x := rfl
theorem at2_1 {x y : V} : atI [x, y] 1 = some y := rfl
theorem at1_0 {x : V} : atI [x] 0 = some x := rfl
theorem at5_0 {a b c d e : V} : atI [a, b, c, d, e] 0 = some a := rfl
theorem at5_1 {a b c d e : V} : atI [a, b, c, d, e] 1 = some b := rfl
theorem at5_2 {a b c d e : V} : atI [a, b, c, d, e] 2 = some c := rfl
theorem at5_3 {a b c d e : V} : atI [a, b, c, d, e] 3 = some d := rfl
theorem at5_4 {a b c d e : V} : atI [a, b, c, d, e] 4 = some e := rfl
theorem eqD_same {K : PySem.W.Frag} {H : Hp} {x y : V} {d : PyData} {Q : VK} (hx : Dp K H x d) (hy : Dp K H y d) (hs : SeqAt.shaped d = true) (q : Q (.bl true) H) : rEqD K x y H Q := ⟨d, d, hx, hy, hs, hs, by rw [SeqAt.eqv_refl d (SeqAt.canLay_of_shaped hs)]; exact q⟩
end Tw

namespace Tw
open PySem L2
/-! ### numbers: tens, count_digits -/
theorem lg10 (f : Nat) : ((10 : Int) ^ f).natAbs.log2 ≤ 4 * f := by
  have h : (10 : Int) ^ f = ((10 ^ f : Nat) : Int) := by simp
  rw [h, Int.natAbs_natCast]
  have hp : (10 : Nat) ^ f ≠ 0 := Nat.ne_of_gt (Nat.pow_pos (by decide))
  have hl : (10 : Nat) ^ f < 2 ^ (4 * f + 1) := by
    rw [Nat.pow_succ, Nat.pow_mul]
    have : (10 : Nat) ^ f ≤ (2 ^ 4) ^ f := Nat.pow_le_pow_left (by decide) f
    have hq : 0 < ((2 : Nat) ^ 4) ^ f := Nat.pow_pos (by decide)
    omega
  have := (Nat.log2_lt hp).mpr hl
  omega
theorem mulW10 {a b : Nat} (h : a + b < 240000) : CMulW ((10 : Int) ^ a) ((10 : Int) ^ b) := by
  have h1 := lg10 a
  have h2 := lg10 b
  show _ + _ < 1000000
  omega
def sp_tens : Sp := fun vs H Q _ => ∃ n : Nat, vs = [.int n] ∧ n ≤ 100000 ∧ ∀ H', Same H H' → Q (.int ((10 : Int) ^ n)) H'
/-! ### Decimals -/
def expOk : V → Bool
  | .int _ => true
  | .str z => decide (z = "F") || decide (z = "n") || decide (z = "N")
  | _ => false
def sp_is_exponent : Sp := fun vs H Q _ => ∃ x, vs = [x] ∧ flat4 x = true ∧ ∀ H', Same H H' → Q (.bl (expOk x)) H'
/-- an exponent as a value: an int, or a text -/
def ScE (e : V) : Prop := (∃ n, e = .int n) ∨ ∃ z, e = .str z
theorem ScE.scal {e : V} (h : ScE e) (z : Str) : scal e (.str z) = true := by
  rcases h with ⟨n, rfl⟩ | ⟨y, rfl⟩ <;> rfl
theorem ScE.flat {e : V} (h : ScE e) : flat4 e = true := by
  rcases h with ⟨n, rfl⟩ | ⟨y, rfl⟩ <;> rfl
theorem ScE.of {e : V} (h : expOk e = true) : ScE e := by
  cases e with
  | int n => exact .inl ⟨n, rfl⟩
  | str z => exact .inr ⟨z, rfl⟩
  | _ => cases h
def decF (s c : Int) (e : V) : List (Str × V) := [("sign", .int s), ("coefficient", .int c), ("exponent", e)]
/-- at v stands a Decimal -/
def DecAt (K : PySem.W.Frag) (H : Hp) (v : V) (s c : Int) (e : V) : Prop := ∃ p dx, v = .ref p ∧ H p = some (.ins (He.ga K "Decimal") dx (decF s c e))
theorem DecAt.mono {K : PySem.W.Frag} {H H' : Hp} {v : V} {s c : Int} {e : V} (h : DecAt K H v s c e) (x : Same H H') : DecAt K H' v s c e := by
  obtain ⟨p, dx, h1, h2⟩ := h
  exact ⟨p, dx, h1, x _ _ h2⟩
structure GoodD (s c : Int) (e : V) : Prop where
  sg : s = 0 ∨ s = 1
  co : 0 ≤ c
  ex : expOk e = true
  inf : e = .str "F" → c = 0
def decOk (args : List V) (fs : List (Str × V)) : Prop := ∃ s c e, args = [.int s, .int c, e] ∧ GoodD s c e ∧ fs = decF s c e
def sp_Decimal___init__ (K : PySem.W.Frag) : Sp := spIn (He.ga K "Decimal") decOk
/-! ### questions about Decimals -/
def isF (e : V) : Bool := decide (e = .str "F")
def isN (e : V) : Bool := decide (e = .str "n") || decide (e = .str "N")
/-- at v stands a Decimal whose parts are good -/
structure DecG (K : PySem.W.Frag) (H : Hp) (v : V) (s c : Int) (e : V) : Prop where
  at_ : DecAt K H v s c e
  good : GoodD s c e
theorem DecG.mono {K : PySem.W.Frag} {H H' : Hp} {v : V} {s c : Int} {e : V} (h : DecG K H v s c e) (x : Same H H') : DecG K H' v s c e := ⟨h.at_.mono x, h.good⟩
def sp_is_finite (K : PySem.W.Frag) : Sp := fun vs H Q _ => ∃ v s c e, vs = [v] ∧ DecG K H v s c e ∧ Q (.bl (isInt e)) H
def sp_is_infinite (K : PySem.W.Frag) : Sp := fun vs H Q _ => ∃ v s c e, vs = [v] ∧ DecG K H v s c e ∧ Q (.bl (isF e)) H
def sp_is_nan (K : PySem.W.Frag) : Sp := fun vs H Q _ => ∃ v s c e, vs = [v] ∧ DecG K H v s c e ∧ Q (.bl (isN e)) H
def sp_is_signaling (K : PySem.W.Frag) : Sp := fun vs H Q _ => ∃ v s c e, vs = [v] ∧ DecG K H v s c e ∧ Q (.bl (decide (e = .str "N"))) H
def sp_is_zero (K : PySem.W.Frag) : Sp := fun vs H Q _ => ∃ v s c e, vs = [v] ∧ DecG K H v s c e ∧ Q (.bl (isInt e && decide (c = 0))) H
theorem lk_sign (s c : Int) (e : V) : (decF s c e).lookup ("sign" : Str) = some (.int s) := rfl
theorem lk_coef (s c : Int) (e : V) : (decF s c e).lookup ("coefficient" : Str) = some (.int c) := rfl
theorem lk_exp (s c : Int) (e : V) : (decF s c e).lookup ("exponent" : Str) = some e := rfl
/-! ### Rules -/
structure Ru where
  prec : Int
  rnd : Str
  emin : Int
  emax : Int
  clamp : Int
def Ru.etiny (r : Ru) : Int := r.emin - r.prec + 1
def Ru.etop (r : Ru) : Int := r.emax - r.prec + 1
def ruF (r : Ru) : List (Str × V) := [("prec", .int r.prec), ("rounding", .str r.rnd), ("emin", .int r.emin), ("emax", .int r.emax), ("clamp", .int r.clamp)]
theorem lk_prec (r : Ru) : (ruF r).lookup ("prec" : Str) = some (.int r.prec) := rfl
theorem lk_rnd (r : Ru) : (ruF r).lookup ("rounding" : Str) = some (.str r.rnd) := rfl
theorem lk_emin (r : Ru) : (ruF r).lookup ("emin" : Str) = some (.int r.emin) := rfl
theorem lk_emax (r : Ru) : (ruF r).lookup ("emax" : Str) = some (.int r.emax) := rfl
theorem lk_clamp (r : Ru) : (ruF r).lookup ("clamp" : Str) = some (.int r.clamp) := rfl
theorem lk_etiny (r : Ru) : (ruF r).lookup ("etiny" : Str) = none := rfl
theorem lk_etop (r : Ru) : (ruF r).lookup ("etop" : Str) = none := rfl
def RuAt (K : PySem.W.Frag) (H : Hp) (v : V) (r : Ru) : Prop := ∃ p dx, v = .ref p ∧ H p = some (.ins (He.ga K "Rules") dx (ruF r))
theorem RuAt.mono {K : PySem.W.Frag} {H H' : Hp} {v : V} {r : Ru} (h : RuAt K H v r) (x : Same H H') : RuAt K H' v r := by
  obtain ⟨p, dx, h1, h2⟩ := h
  exact ⟨p, dx, h1, x _ _ h2⟩
def ruOk (args : List V) (fs : List (Str × V)) : Prop := ∃ r : Ru, args = [.int r.prec, .str r.rnd, .int r.emin, .int r.emax, .int r.clamp] ∧ fs = ruF r
def sp_etiny (K : PySem.W.Frag) : Sp := fun vs H Q _ => ∃ v r, vs = [v] ∧ RuAt K H v r ∧ Q (.int r.etiny) H
def sp_etop (K : PySem.W.Frag) : Sp := fun vs H Q _ => ∃ v r, vs = [v] ∧ RuAt K H v r ∧ Q (.int r.etop) H
/-! ### zeros finished -/
/-- a result and its conditions, as a tuple -/
def OutAt (K : PySem.W.Frag) (H : Hp) (v : V) (s c : Int) (e : V) (ws : List Str) : Prop := ∃ p d q, v = .ref p ∧ H p = some (.tup [d, .ref q]) ∧ DecG K H d s c e ∧ H q = some (.tup (ws.map V.str))
theorem OutAt.mono {K : PySem.W.Frag} {H H' : Hp} {v : V} {s c : Int} {e : V} {ws : List Str} (h : OutAt K H v s c e ws) (x : Same H H') : OutAt K H' v s c e ws := by
  obtain ⟨p, d, q, h1, h2, h3, h4⟩ := h
  exact ⟨p, d, q, h1, x _ _ h2, h3.mono x, x _ _ h4⟩
def zTop (r : Ru) : Int := if r.clamp = 1 then r.etop else r.emax
def zExp (r : Ru) (e : Int) : Int := min (max e r.etiny) (zTop r)
def zWords (r : Ru) (e : Int) : List Str := if zExp r e = e then [] else ["Clamped"]
theorem goodI {s c e : Int} (hs : s = 0 ∨ s = 1) (hc : 0 ≤ c) : GoodD s c (.int e) := ⟨hs, hc, rfl, fun h => nomatch h⟩
def sp_finish_zero (K : PySem.W.Frag) : Sp := fun vs H Q _ => ∃ rv r s e, vs = [rv, .int s, .int e] ∧ RuAt K H rv r ∧ (s = 0 ∨ s = 1) ∧ ∀ v H', Same H H' → OutAt K H' v s 0 (.int (zExp r e)) (zWords r e) → Q v H'
def sp_finish_parts (K : PySem.W.Frag) : Sp := fun vs H Q _ => ∃ rv r s e, vs = [rv, .int s, .int 0, .int e] ∧ RuAt K H rv r ∧ (s = 0 ∨ s = 1) ∧ ∀ v H', Same H H' → OutAt K H' v s 0 (.int (zExp r e)) (zWords r e) → Q v H'
def sp_finish (K : PySem.W.Frag) : Sp := fun vs H Q _ => ∃ rv a r s e, vs = [rv, a] ∧ RuAt K H rv r ∧ DecG K H a s 0 (.int e) ∧ ∀ v H', Same H H' → OutAt K H' v s 0 (.int (zExp r e)) (zWords r e) → Q v H'
/-! ### plus, minus, absolute of zeros -/
def sp_nan_of (K : PySem.W.Frag) : Sp := fun vs H Q _ => ∃ rv lp a s c n, vs = [rv, .ref lp] ∧ H lp = some (.lst [a]) ∧ DecG K H a s c (.int n) ∧ ∀ H', Same H H' → Q .non H'
/-- the sign that a zero is told with -/
def zSign (r : Ru) (s : Int) : Int := if r.rnd = "floor" then s else 0
def sp_with_sign_sums (K : PySem.W.Frag) : Sp := fun vs H Q _ => ∃ rv a r s0 s n, vs = [rv, a, .int s] ∧ RuAt K H rv r ∧ DecG K H a s0 0 (.int n) ∧ (s = 0 ∨ s = 1) ∧ ∀ v H', Same H H' → OutAt K H' v (zSign r s) 0 (.int (zExp r n)) (zWords r n) → Q v H'
def sp_un (K : PySem.W.Frag) (f : Int → Int) : Sp := fun vs H Q _ => ∃ rv a r s n, vs = [rv, a] ∧ RuAt K H rv r ∧ DecG K H a s 0 (.int n) ∧ ∀ v H', Same H H' → OutAt K H' v (zSign r (f s)) 0 (.int (zExp r n)) (zWords r n) → Q v H'
/-! ### contexts and told -/
def ctxF (tr ra : Addr) (r : Ru) (cap : Int) (rv : V) : List (Str × V) := [("trapped", .ref tr), ("raised", .ref ra), ("prec", .int r.prec), ("rounding", .str r.rnd), ("emin", .int r.emin), ("emax", .int r.emax), ("capitals", .int cap), ("clamp", .int r.clamp), ("rules", rv)]
theorem lk_rules (tr ra : Addr) (r : Ru) (cap : Int) (rv : V) : (ctxF tr ra r cap rv).lookup ("rules" : Str) = some rv := rfl
theorem lk_told (tr ra : Addr) (r : Ru) (cap : Int) (rv : V) : (ctxF tr ra r cap rv).lookup ("told" : Str) = none := rfl
def CtxAt (K : PySem.W.Frag) (H : Hp) (v : V) (r : Ru) : Prop := ∃ p dx tr ra cap rv, v = .ref p ∧ H p = some (.ins (He.ga K "Context") dx (ctxF tr ra r cap rv)) ∧ RuAt K H rv r
theorem CtxAt.mono {K : PySem.W.Frag} {H H' : Hp} {v : V} {r : Ru} (h : CtxAt K H v r) (x : Same H H') : CtxAt K H' v r := by
  obtain ⟨p, dx, tr, ra, cap, rv, h1, h2, h3⟩ := h
  exact ⟨p, dx, tr, ra, cap, rv, h1, x _ _ h2, h3.mono x⟩
def tQUESTIONS : List V := ([V.str "is_finite", V.str "is_infinite", V.str "is_nan", V.str "is_qnan", V.str "is_snan", V.str "is_signed", V.str "is_zero", V.str "is_canonical"] : List V)
def sp_decimal_of (K : PySem.W.Frag) : Sp := fun vs H Q _ => ∃ v s c e, vs = [v] ∧ DecG K H v s c e ∧ Q v H
def sigOf (z : Str) : Str := if z = "InvalidOperation" ∨ z = "ConversionSyntax" ∨ z = "DivisionImpossible" ∨ z = "DivisionUndefined" then "InvalidOperation" else z
def sp_signal_of : Sp := fun vs H Q _ => ∃ z, vs = [.str z] ∧ Q (.str (sigOf z)) H
/-- the three operations of one operand, as they act on the sign of a zero -/
inductive Op1 : Str → (Int → Int) → Prop where
  | plus : Op1 "plus" fun s => s
  | minus : Op1 "minus" fun s => 1 - s
  | absolute : Op1 "absolute" fun _ => 0
def sp_with_one (K : PySem.W.Frag) : Sp := fun vs H Q _ => ∃ rv z a r s n f, vs = [rv, .str z, a] ∧ Op1 z f ∧ RuAt K H rv r ∧ DecG K H a s 0 (.int n) ∧ ∀ v H', Same H H' → OutAt K H' v (zSign r (f s)) 0 (.int (zExp r n)) (zWords r n) → Q v H'
def sp_outcome_of (K : PySem.W.Frag) : Sp := fun vs H Q _ => ∃ rv z tp a r s n f, vs = [rv, .str z, .ref tp] ∧ H tp = some (.tup [a]) ∧ Op1 z f ∧ RuAt K H rv r ∧ DecG K H a s 0 (.int n) ∧ ∀ v H', Same H H' → OutAt K H' v (zSign r (f s)) 0 (.int (zExp r n)) (zWords r n) → Q v H'
def sp_is_operation1 : Sp := fun vs H Q _ => ∃ z f, vs = [.str z, .int 1] ∧ Op1 z f ∧ Q (.bl true) H
def sp_told (K : PySem.W.Frag) : Sp := fun vs H Q _ => ∃ cv z tp a r s n f, vs = [cv, .str z, .ref tp] ∧ CtxAt K H cv r ∧ H tp = some (.tup [a]) ∧ Op1 z f ∧ DecG K H a s 0 (.int n) ∧ ∀ v H', Same H H' → OutAt K H' v (zSign r (f s)) 0 (.int (zExp r n)) (zWords r n) → Q v H'
def sp_check_between : Sp := fun vs H Q _ => ∃ i lo hi z, vs = [.int i, .int lo, .int hi, .str z] ∧ lo ≤ i ∧ i ≤ hi ∧ Q .non H
def sp_names_of0 : Sp := fun vs H Q _ => ∃ tp z, vs = [.ref tp, .str z] ∧ H tp = some (.tup []) ∧ newO (.lst []) H Q
def rounds : List V := ([V.str "up", V.str "down", V.str "ceiling", V.str "floor", V.str "half_up", V.str "half_down", V.str "half_even", V.str "05up"] : List V)
structure GoodR (r : Ru) (cap : Int) : Prop where
  p1 : 1 ≤ r.prec
  p2 : r.prec ≤ 999999999999999999
  rn : inV (.str r.rnd) rounds = true
  l1 : -999999999999999999 ≤ r.emin
  l2 : r.emin ≤ 0
  h1 : 0 ≤ r.emax
  h2 : r.emax ≤ 999999999999999999
  c1 : 0 ≤ cap
  c2 : cap ≤ 1
  f1 : 0 ≤ r.clamp
  f2 : r.clamp ≤ 1
def sp_ctx0 (K : PySem.W.Frag) : Sp := fun vs H Q _ => ∃ (H0 : Hp) (p dx : Addr) (r : Ru) (cap : Int) (tp : Addr), vs = [.ref p, .int r.prec, .str r.rnd, .int r.emin, .int r.emax, .int cap, .int r.clamp, .ref tp] ∧ Same H0 H ∧ H0 p = none ∧ H p = some (.ins (He.ga K "Context") dx []) ∧
  H tp = some (.tup []) ∧ GoodR r cap ∧ ∀ H' tr ra rv, Same H0 H' → H' p = some (.ins (He.ga K "Context") dx (ctxF tr ra r cap rv)) → H' tr = some (.lst []) → H' ra = some (.lst []) → RuAt K H' rv r → Q .non H'
/-! ### the helpers of the laws on contexts -/
def tupR (r : Ru) : List V := [.int r.prec, .str r.rnd, .int r.emin, .int r.emax, .int r.clamp]
structure SmallR (r : Ru) (most : Int) : Prop where
  p1 : 1 ≤ r.prec
  p2 : r.prec ≤ most
  rn : V.str r.rnd ∈ rounds
  l1 : -9 ≤ r.emin
  l2 : r.emin ≤ 0
  h1 : 0 ≤ r.emax
  h2 : r.emax ≤ 9
  f1 : 0 ≤ r.clamp
  f2 : r.clamp ≤ 1
def sp_law_ways : Sp := fun vs H Q _ => vs = [] ∧ newO (.lst rounds) H Q
def sp_law_rules : Sp := fun vs H Q _ => ∃ W m n, vs = [.ref W, .int m] ∧ 1 ≤ m ∧ m ≤ 1000 ∧ IsWell H W n ∧ 5 ≤ n ∧ ∀ p r H', SameX W H H' → IsWell H' W (n - 5) → SmallR r m → H' p = some (.tup (tupR r)) → p ≠ W → Q (.ref p) H'
def sp_law_context (K : PySem.W.Frag) : Sp := fun vs H Q _ => ∃ p r, vs = [.ref p] ∧ H p = some (.tup (tupR r)) ∧ SmallR r 1000 ∧ ∀ v H', Same H H' → CtxAt K H' v r → Q v H'
def sp_law_parts (K : PySem.W.Frag) : Sp := fun vs H Q _ => ∃ v s c e, vs = [v] ∧ DecG K H v s c e ∧ newO (.tup [.int s, .int c, e]) H Q
def sp_law_zero_right (K : PySem.W.Frag) : Sp := fun vs H Q _ => ∃ p r s n v, vs = [.ref p, .int s, .int n, v] ∧ H p = some (.tup (tupR r)) ∧ OutAt K H v s 0 (.int (zExp r n)) (zWords r n) ∧ r.etiny ≤ zTop r ∧ ∀ H', Same H H' → Q (.bl true) H'
def sp_law (K : PySem.W.Frag) : Sp := fun vs H Q _ => ∃ (a : Addr) (ns : List Int), vs = [.ref a] ∧ SqL K H a (ns.map V.int) ∧ ns.length ≤ 63 ∧ ∀ H', Q (.bl true) H'
end Tw

namespace Tw
open PySem L2
/-! ### data: what values say, without the heap -/
inductive Ex4 where
  | fin (n : Int)
  | inf
  | qn
  | sn
  deriving DecidableEq
structure Dc where
  s : Int
  c : Int
  e : Ex4
structure Dc.Ok (a : Dc) : Prop where
  sg : a.s = 0 ∨ a.s = 1
  co : 0 ≤ a.c
  inf : a.e = .inf → a.c = 0
inductive D where
  | non
  | bl (b : Bool)
  | int (i : Int)
  | str (z : Str)
  | tup (xs : List D)
  | lst (xs : List D)
  | scr (xs : List D)
  | dec (a : Dc)
  | rul (r : Ru)
  | ref (a : Addr)
  | ty (n : String)
  | dct (kvs : List (Str × D))
def Ex4.v : Ex4 → V
  | .fin n => .int n
  | .inf => .str "F"
  | .qn => .str "n"
  | .sn => .str "N"
def Ex4.d : Ex4 → D
  | .fin n => .int n
  | .inf => .str "F"
  | .qn => .str "n"
  | .sn => .str "N"
def exOf : D → Option Ex4
  | .int n => some (.fin n)
  | .str z => if z = "F" then some .inf else if z = "n" then some .qn else if z = "N" then some .sn else none
  | _ => none
theorem exOf_int (n : Int) : exOf (.int n) = some (.fin n) := rfl
theorem exOf_d : ∀ e : Ex4, exOf e.d = some e
  | .fin _ => rfl
  | .inf => by decide +kernel
  | .qn => by decide +kernel
  | .sn => by decide +kernel
/-- a tuple: one that is frozen, or one of the module -/
def TupAt (K : PySem.W.Frag) (F : Hp) (p : Addr) (vs : List V) : Prop := F p = some (.tup vs) ∨ ∃ (o : Obj) (its : Array Value) (n : Nat), K.lookup p = some o ∧ o.cls = .type "tuple" ∧ o.data = .seq its n ∧ its.size ≤ sizeLine ∧ Vals vs its.toList
theorem TupAt.mono {K : PySem.W.Frag} {F F' : Hp} {p : Addr} {vs : List V} (h : TupAt K F p vs) (x : Same F F') : TupAt K F' p vs := h.imp (x _ _) id
theorem TupAt.sq {K : PySem.W.Frag} {F H : Hp} {p : Addr} {vs : List V} (h : TupAt K F p vs) (x : Same F H) : SqT K H p vs := h.elim (fun h => SqT.of (x _ _ h)) .inr
theorem TupAt.mod {K : PySem.W.Frag} {F : Hp} {p : Addr} {vs : List V} (h : ∀ H, SqT K H p vs) : TupAt K F p vs := by
  rcases h (fun _ => none) with (h | ⟨_, h⟩) | h
  · cases h
  · cases h
  · exact .inr h
mutual
inductive Rep (K : PySem.W.Frag) (F : Hp) : V → D → Prop
  | non : Rep K F .non .non
  | bl (b : Bool) : Rep K F (.bl b) (.bl b)
  | int (i : Int) : Rep K F (.int i) (.int i)
  | str (z : Str) : Rep K F (.str z) (.str z)
  | ref (a : Addr) : Rep K F (.ref a) (.ref a)
  | ty (n : String) : Rep K F (.ty n) (.ty n)
  | tup {p : Addr} {vs : List V} {ds : List D} : TupAt K F p vs → Reps K F vs ds → Rep K F (.ref p) (.tup ds)
  | lst {p : Addr} {vs : List V} {ds : List D} : F p = some (.lst vs) → Reps K F vs ds → Rep K F (.ref p) (.lst ds)
  | scr {p : Addr} {vs : List V} {ds : List D} : SqL K F p vs → Reps K F vs ds → Rep K F (.ref p) (.scr ds)
  | dec {p dx : Addr} {a : Dc} : F p = some (.ins (He.ga K "Decimal") dx (decF a.s a.c a.e.v)) → a.Ok → Rep K F (.ref p) (.dec a)
  | rul {p dx : Addr} {r : Ru} : F p = some (.ins (He.ga K "Rules") dx (ruF r)) → Rep K F (.ref p) (.rul r)
  | dct {p : Addr} {kvs : List (Key × V)} {ps : List (Str × D)} : F p = some (.dK kvs) → RepKs K F kvs ps → Rep K F (.ref p) (.dct ps)
inductive RepKs (K : PySem.W.Frag) (F : Hp) : List (Key × V) → List (Str × D) → Prop
  | nil : RepKs K F [] []
  | cons {z : Str} {v : V} {d : D} {kvs : List (Key × V)} {ps : List (Str × D)} : Rep K F v d → RepKs K F kvs ps → RepKs K F ((Sum.inr z, v) :: kvs) ((z, d) :: ps)
inductive Reps (K : PySem.W.Frag) (F : Hp) : List V → List D → Prop
  | nil : Reps K F [] []
  | cons {v : V} {vs : List V} {d : D} {ds : List D} : Rep K F v d → Reps K F vs ds → Reps K F (v :: vs) (d :: ds)
end
section
variable {K : PySem.W.Frag} {F F' : Hp}
mutual
theorem Rep.mono (x : Same F F') : ∀ {v : V} {d : D}, Rep K F v d → Rep K F' v d
  | _, _, .non => .non
  | _, _, .bl b => .bl b
  | _, _, .int i => .int i
  | _, _, .str z => .str z
  | _, _, .ref a => .ref a
  | _, _, .ty n => .ty n
  | _, _, .tup h r => .tup (h.mono x) (Reps.mono x r)
  | _, _, .lst h r => .lst (x _ _ h) (Reps.mono x r)
  | _, _, .scr h r => .scr (Same.seq x h) (Reps.mono x r)
  | _, _, .dec h o => .dec (x _ _ h) o
  | _, _, .rul h => .rul (x _ _ h)
  | _, _, .dct h r => .dct (x _ _ h) (RepKs.mono x r)
theorem RepKs.mono (x : Same F F') : ∀ {kvs : List (Key × V)} {ps : List (Str × D)}, RepKs K F kvs ps → RepKs K F' kvs ps
  | _, _, .nil => .nil
  | _, _, .cons h r => .cons (Rep.mono x h) (RepKs.mono x r)
theorem Reps.mono (x : Same F F') : ∀ {vs : List V} {ds : List D}, Reps K F vs ds → Reps K F' vs ds
  | _, _, .nil => .nil
  | _, _, .cons h r => .cons (Rep.mono x h) (Reps.mono x r)
end
theorem Reps.length : ∀ {vs : List V} {ds : List D}, Reps K F vs ds → vs.length = ds.length
  | _, _, .nil => rfl
  | _, _, .cons _ r => congrArg (· + 1) (Reps.length r)
theorem Reps.get : ∀ {vs : List V} {ds : List D} {i : Nat} {d : D}, Reps K F vs ds → ds[i]? = some d → ∃ v, vs[i]? = some v ∧ Rep K F v d
  | _, _, _, _, .nil, e => by simp at e
  | _, _, 0, _, .cons r _, e => by
    simp at e
    subst e
    exact ⟨_, rfl, r⟩
  | _, _, i + 1, _, .cons _ t, e => by
    obtain ⟨v, h1, h2⟩ := Reps.get (i := i) t (by simpa using e)
    exact ⟨v, by simpa using h1, h2⟩
theorem Reps.getV : ∀ {vs : List V} {ds : List D} {i : Nat} {v : V}, Reps K F vs ds → vs[i]? = some v → ∃ d, ds[i]? = some d ∧ Rep K F v d
  | _, _, _, _, .nil, e => by simp at e
  | _, _, 0, _, .cons r _, e => by
    simp at e
    subst e
    exact ⟨_, rfl, r⟩
  | _, _, i + 1, _, .cons _ t, e => by
    obtain ⟨v, h1, h2⟩ := Reps.getV (i := i) t (by simpa using e)
    exact ⟨v, by simpa using h1, h2⟩
theorem Reps.append : ∀ {vs us : List V} {ds es : List D}, Reps K F vs ds → Reps K F us es → Reps K F (vs ++ us) (ds ++ es)
  | _, _, _, _, .nil, s => s
  | _, _, _, _, .cons r t, s => .cons r (Reps.append t s)
theorem Reps.take : ∀ {vs : List V} {ds : List D} (n : Nat), Reps K F vs ds → Reps K F (vs.take n) (ds.take n)
  | _, _, 0, _ => .nil
  | _, _, _ + 1, .nil => .nil
  | _, _, n + 1, .cons r t => .cons r (Reps.take n t)
theorem Reps.drop : ∀ {vs : List V} {ds : List D} (n : Nat), Reps K F vs ds → Reps K F (vs.drop n) (ds.drop n)
  | _, _, 0, r => r
  | _, _, _ + 1, .nil => .nil
  | _, _, n + 1, .cons _ t => Reps.drop n t
theorem Reps.atI {vs : List V} {ds : List D} {i : Int} {d : D} (r : Reps K F vs ds) (h : L2.atI ds i = some d) : ∃ v, L2.atI vs i = some v ∧ Rep K F v d := by
  unfold L2.atI at h ⊢
  rw [r.length]
  cases e : ixN ds.length i with
  | none =>
    rw [e] at h
    cases h
  | some j =>
    rw [e] at h
    exact r.get h
theorem Reps.strs : ∀ {vs : List V} {zs : List Str}, Reps K F vs (zs.map D.str) → vs = zs.map V.str
  | _, [], .nil => rfl
  | _, _ :: _, .cons (.str z) t => by rw [Reps.strs t]; rfl
theorem Reps.of_strs : ∀ (zs : List Str), Reps K F (zs.map V.str) (zs.map D.str)
  | [] => .nil
  | z :: zs => .cons (.str z) (Reps.of_strs zs)
theorem Reps.ints : ∀ {vs : List V} {zs : List Int}, Reps K F vs (zs.map D.int) → vs = zs.map V.int
  | _, [], .nil => rfl
  | _, _ :: _, .cons (.int z) t => by rw [Reps.ints t]; rfl
theorem Reps.of_ints : ∀ (zs : List Int), Reps K F (zs.map V.int) (zs.map D.int)
  | [] => .nil
  | z :: zs => .cons (.int z) (Reps.of_ints zs)
end
/-! ### what is owned: objects that change -/
inductive MO where
  | well (n : Int)
  | lst (xs : List D)
  | ctx (r : Ru) (cap : Int) (trp flg : List Str)
  | xd (f : Str) (v : D)
  | tab (kvs : List (List Int × Int))
  | tdc (ps : List (Str × D))
  | ink (ks : List Int)
abbrev Ow := Addr → Option MO
def updO (O : Ow) (a : Addr) (m : MO) : Ow := fun b => if b = a then some m else O b
def delO (O : Ow) (a : Addr) : Ow := fun b => if b = a then none else O b
theorem updO_same {O : Ow} {a : Addr} {m : MO} : updO O a m a = some m := by unfold updO; rw [if_pos rfl]
theorem updO_ne {O : Ow} {a b : Addr} {m : MO} (h : b ≠ a) : updO O a m b = O b := by unfold updO; rw [if_neg h]
theorem updO_updO {O : Ow} {a : Addr} {m n : MO} : updO (updO O a m) a n = updO O a n := by
  funext b
  unfold updO
  split <;> rfl
theorem delO_same {O : Ow} {a : Addr} : delO O a a = none := by unfold delO; rw [if_pos rfl]
theorem delO_ne {O : Ow} {a b : Addr} (h : b ≠ a) : delO O a b = O b := by unfold delO; rw [if_neg h]
theorem updO_id {O : Ow} {a : Addr} {m : MO} (h : O a = some m) : updO O a m = O := by
  funext b
  unfold updO
  split
  · rename_i e
    rw [e, h]
  · rfl
/-- a dict whose keys are tuples of integers, its values integers; a dict of integers, each with True -/
def tabV (kvs : List (List Int × Int)) : List (List Key × V) := kvs.map fun p => (p.1.map Sum.inl, V.int p.2)
def inkV (ks : List Int) : List (Key × V) := ks.map fun k => (Sum.inl k, V.bl true)
def MoAt (K : PySem.W.Frag) (F : Hp) : MO → HO → Prop
  | .well n, o => ∃ a b c : Int, o = .lst [.int a, .int b, .int c] ∧ 0 ≤ a ∧ 0 ≤ b ∧ b < 4294967296 ∧ 0 ≤ c ∧ 0 ≤ n ∧ c + n ≤ 1000000000
  | .lst ds, o => ∃ vs, o = .lst vs ∧ Reps K F vs ds
  | .ctx r cap trp flg, o => ∃ dx rv tr ra, o = .ins (He.ga K "Context") dx (ctxF tr ra r cap rv) ∧ Rep K F rv (.rul r) ∧ Rep K F (.ref tr) (.lst (trp.map D.str)) ∧ Rep K F (.ref ra) (.lst (flg.map D.str))
  | .xd f d, o => ∃ v, o = .xd [(f, v)] ∧ Rep K F v d
  | .tab kvs, o => o = .dT (tabV kvs)
  | .tdc ps, o => ∃ kvs, o = .dK kvs ∧ RepKs K F kvs ps
  | .ink ks, o => o = .dK (inkV ks)
theorem MoAt.mono {K : PySem.W.Frag} {F F' : Hp} (x : Same F F') : ∀ {m : MO} {o : HO}, MoAt K F m o → MoAt K F' m o
  | .well _, _, h => h
  | .lst _, _, ⟨vs, h, r⟩ => ⟨vs, h, r.mono x⟩
  | .ctx .., _, ⟨dx, rv, tr, ra, h, r, r1, r2⟩ => ⟨dx, rv, tr, ra, h, r.mono x, r1.mono x, r2.mono x⟩
  | .xd .., _, ⟨v, h, r⟩ => ⟨v, h, r.mono x⟩
  | .tab _, _, h => h
  | .tdc _, _, ⟨kvs, h, r⟩ => ⟨kvs, h, r.mono x⟩
  | .ink _, _, h => h
structure Hold (K : PySem.W.Frag) (F : Hp) (O : Ow) (H : Hp) : Prop where
  sub : Same F H
  own : ∀ a m, O a = some m → F a = none ∧ ∃ o, H a = some o ∧ MoAt K F m o
/-- a step: what is frozen stays, the rest of the heap stays, what is owned is as O' says -/
structure Stp (K : PySem.W.Frag) (F : Hp) (O : Ow) (H : Hp) (F' : Hp) (O' : Ow) (H' : Hp) : Prop where
  same : Same F F'
  hold : Hold K F' O' H'
  fr : ∀ b o, F b = none → O b = none → H b = some o → H' b = some o ∧ F' b = none ∧ O' b = none
section
variable {K : PySem.W.Frag} {F F1 F2 : Hp} {O O1 O2 : Ow} {H H1 H2 : Hp}
theorem Stp.rfl (h : Hold K F O H) : Stp K F O H F O H := ⟨Same.refl F, h, fun _ _ a b c => ⟨c, a, b⟩⟩
theorem Stp.tr (a : Stp K F O H F1 O1 H1) (b : Stp K F1 O1 H1 F2 O2 H2) : Stp K F O H F2 O2 H2 := ⟨a.same.trans b.same, b.hold, fun x o h1 h2 h3 => by
  obtain ⟨q1, q2, q3⟩ := a.fr x o h1 h2 h3
  exact b.fr x o q2 q3 q1⟩
theorem Hold.free (h : Hold K F O H) {p : Addr} (hp : H p = none) : F p = none ∧ O p = none := by
  constructor
  · exact Same.free h.sub hp
  · cases e : O p with
    | none => rfl
    | some m =>
      obtain ⟨_, o, ho, _⟩ := h.own p m e
      rw [ho] at hp
      cases hp
/-- a new frozen object -/
theorem Hold.new (h : Hold K F O H) {p : Addr} {o : HO} (hp : H p = none) : Stp K F O H (upd F p o) O (upd H p o) := by
  obtain ⟨f1, o1⟩ := h.free hp
  have s1 : Same F (upd F p o) := fun b u e => by
    rw [upd_ne (ne_of_none e f1)]
    exact e
  refine ⟨s1, ⟨fun b u e => ?_, fun a m e => ?_⟩, fun b u h1 h2 h3 => ?_⟩
  · by_cases hb : b = p
    · rw [hb, upd_same] at e ⊢
      exact e
    · rw [upd_ne hb] at e ⊢
      exact h.sub _ _ e
  · obtain ⟨q1, u, q2, q3⟩ := h.own a m e
    have hb : a ≠ p := fun z => by rw [z, o1] at e; cases e
    exact ⟨by rw [upd_ne hb]; exact q1, u, by rw [upd_ne hb]; exact q2, q3.mono s1⟩
  · have hb : b ≠ p := fun z => by rw [z, hp] at h3; cases h3
    exact ⟨by rw [upd_ne hb]; exact h3, by rw [upd_ne hb]; exact h1, h2⟩
/-- the heap grew -/
theorem Hold.grow (h : Hold K F O H) (x : Same H H1) : Stp K F O H F O H1 := ⟨Same.refl F, ⟨h.sub.trans x, fun a m e => by
  obtain ⟨q1, u, q2, q3⟩ := h.own a m e
  exact ⟨q1, u, x _ _ q2, q3⟩⟩, fun _ _ a b c => ⟨x _ _ c, a, b⟩⟩
/-- a new frozen object in a heap that grew -/
theorem Hold.newS (h : Hold K F O H) (x : Same H H1) {p : Addr} {o : HO} (hp : H p = none) (ho : H1 p = some o) : Stp K F O H (upd F p o) O H1 := by
  obtain ⟨f1, o1⟩ := h.free hp
  have sF : Same F (upd F p o) := fun b u z => by
    rw [upd_ne (ne_of_none z f1)]
    exact z
  refine ⟨sF, ⟨fun b u z => ?_, fun a m z => ?_⟩, fun b u h1 h2 h3 => ?_⟩
  · by_cases hb : b = p
    · rw [hb, upd_same] at z
      rw [hb, ho]
      exact z
    · rw [upd_ne hb] at z
      exact x _ _ (h.sub _ _ z)
  · obtain ⟨g1, u, g2, g3⟩ := h.own a m z
    have hb : a ≠ p := fun y => by rw [y, o1] at z; cases z
    exact ⟨by rw [upd_ne hb]; exact g1, u, x _ _ g2, g3.mono sF⟩
  · have hb : b ≠ p := fun y => by rw [y, hp] at h3; cases h3
    exact ⟨x _ _ h3, by rw [upd_ne hb]; exact h1, h2⟩
/-- what is neither frozen nor owned may change -/
theorem Hold.loose (h : Hold K F O H) {p : Addr} {o : HO} (f1 : F p = none) (o1 : O p = none) : Hold K F O (upd H p o) := ⟨fun b u e => by
  rw [upd_ne (ne_of_none e f1)]
  exact h.sub _ _ e, fun a m e => by
  obtain ⟨g1, u, g2, g3⟩ := h.own a m e
  have hb : a ≠ p := fun z => by rw [z, o1] at e; cases e
  exact ⟨g1, u, by rw [upd_ne hb]; exact g2, g3⟩⟩
/-- .. and becomes owned -/
theorem Hold.own1 (h : Hold K F O H) {p : Addr} {o : HO} {m : MO} (f1 : F p = none) (hp : H p = some o) (hm : MoAt K F m o) : Hold K F (updO O p m) H := ⟨h.sub, fun a m' e => by
  by_cases hb : a = p
  · subst hb
    rw [updO_same] at e
    cases e
    exact ⟨f1, o, hp, hm⟩
  · rw [updO_ne hb] at e
    exact h.own a m' e⟩
/-- a new owned object -/
theorem Hold.newM (h : Hold K F O H) {p : Addr} {o : HO} {m : MO} (hp : H p = none) (hm : MoAt K F m o) : Stp K F O H F (updO O p m) (upd H p o) := by
  obtain ⟨f1, o1⟩ := h.free hp
  refine ⟨Same.refl F, ⟨fun b u e => ?_, fun a m' e => ?_⟩, fun b u h1 h2 h3 => ?_⟩
  · have hb : b ≠ p := fun z => by rw [z, f1] at e; cases e
    rw [upd_ne hb]
    exact h.sub _ _ e
  · by_cases hb : a = p
    · subst hb
      rw [updO_same] at e
      cases e
      exact ⟨f1, o, upd_same, hm⟩
    · rw [updO_ne hb] at e
      obtain ⟨q1, u, q2, q3⟩ := h.own a m' e
      exact ⟨q1, u, by rw [upd_ne hb]; exact q2, q3⟩
  · have hb : b ≠ p := fun z => by rw [z, hp] at h3; cases h3
    exact ⟨by rw [upd_ne hb]; exact h3, h1, by rw [updO_ne hb]; exact h2⟩
/-- an owned object changes -/
theorem Hold.put (h : Hold K F O H) {p : Addr} {o : HO} {m0 m : MO} (hp : O p = some m0) (hm : MoAt K F m o) : Stp K F O H F (updO O p m) (upd H p o) := by
  obtain ⟨f1, _⟩ := h.own p m0 hp
  refine ⟨Same.refl F, ⟨fun b u e => ?_, fun a m' e => ?_⟩, fun b u h1 h2 h3 => ?_⟩
  · have hb : b ≠ p := fun z => by rw [z, f1] at e; cases e
    rw [upd_ne hb]
    exact h.sub _ _ e
  · by_cases hb : a = p
    · subst hb
      rw [updO_same] at e
      cases e
      exact ⟨f1, o, upd_same, hm⟩
    · rw [updO_ne hb] at e
      obtain ⟨q1, u, q2, q3⟩ := h.own a m' e
      exact ⟨q1, u, by rw [upd_ne hb]; exact q2, q3⟩
  · have hb : b ≠ p := fun z => by rw [z, hp] at h2; cases h2
    exact ⟨by rw [upd_ne hb]; exact h3, h1, by rw [updO_ne hb]; exact h2⟩
/-- an owned list is frozen -/
theorem Hold.freeze (h : Hold K F O H) {p : Addr} {ds : List D} (hp : O p = some (.lst ds)) : ∃ F', Stp K F O H F' (delO O p) H ∧ Rep K F' (.ref p) (.lst ds) := by
  obtain ⟨f1, o, h1, vs, rfl, hr⟩ := h.own p _ hp
  have s1 : Same F (upd F p (.lst vs)) := fun b u e => by
    rw [upd_ne (ne_of_none e f1)]
    exact e
  refine ⟨upd F p (.lst vs), ⟨s1, ⟨fun b u e => ?_, fun a m e => ?_⟩, fun b u q1 q2 q3 => ?_⟩, .lst upd_same (hr.mono s1)⟩
  · by_cases hb : b = p
    · rw [hb, upd_same] at e
      rw [hb, h1]
      exact e
    · rw [upd_ne hb] at e
      exact h.sub _ _ e
  · by_cases hb : a = p
    · rw [hb, delO_same] at e
      cases e
    · rw [delO_ne hb] at e
      obtain ⟨q1, u, q2, q3⟩ := h.own a m e
      exact ⟨by rw [upd_ne hb]; exact q1, u, q2, q3.mono s1⟩
  · have hb : b ≠ p := fun z => by rw [z, hp] at q2; cases q2
    exact ⟨q3, by rw [upd_ne hb]; exact q1, by rw [delO_ne hb]; exact q2⟩
end
/-! ### names' values -/
abbrev DEnv := List (Option D)
def EnvR (K : PySem.W.Frag) (F : Hp) (σ : L2.St) (ρ : DEnv) : Prop := σ.length = ρ.length ∧ ∀ (i : Nat) (d : D), ρ[i]? = some (some d) → ∃ v, σ[i]? = some (some v) ∧ Rep K F v d
section
variable {K : PySem.W.Frag} {F F' : Hp} {σ : L2.St} {ρ : DEnv}
theorem EnvR.mono (h : EnvR K F σ ρ) (x : Same F F') : EnvR K F' σ ρ := ⟨h.1, fun i d e => by
  obtain ⟨v, h1, h2⟩ := h.2 i d e
  exact ⟨v, h1, h2.mono x⟩⟩
theorem EnvR.set (h : EnvR K F σ ρ) {v : V} {d : D} (i : Nat) (r : Rep K F v d) : EnvR K F (σ.set i (some v)) (ρ.set i (some d)) := by
  refine ⟨by rw [List.length_set, List.length_set]; exact h.1, fun j e hj => ?_⟩
  rw [List.getElem?_set] at hj ⊢
  by_cases hij : i = j
  · subst hij
    rw [if_pos rfl] at hj ⊢
    rw [h.1]
    split at hj
    · rename_i hl
      rw [if_pos hl]
      cases hj
      exact ⟨v, rfl, r⟩
    · cases hj
  · rw [if_neg hij] at hj ⊢
    exact h.2 j e hj
theorem EnvR.unset (h : EnvR K F σ ρ) (i : Nat) : EnvR K F (σ.set i none) (ρ.set i none) := by
  refine ⟨by rw [List.length_set, List.length_set]; exact h.1, fun j e hj => ?_⟩
  rw [List.getElem?_set] at hj ⊢
  by_cases hij : i = j
  · subst hij
    rw [if_pos rfl] at hj
    split at hj
    · cases hj
    · cases hj
  · rw [if_neg hij] at hj ⊢
    exact h.2 j e hj
/-- another data of the same value -/
theorem EnvR.as (h : EnvR K F σ ρ) {i : Nat} {d e : D} (hd : ρ[i]? = some (some d)) (x : ∀ v, Rep K F v d → Rep K F v e) : EnvR K F σ (ρ.set i (some e)) := by
  refine ⟨by rw [List.length_set]; exact h.1, fun j q hj => ?_⟩
  rw [List.getElem?_set] at hj
  by_cases hij : i = j
  · subst hij
    rw [if_pos rfl] at hj
    split at hj
    · cases hj
      obtain ⟨v, h1, h2⟩ := h.2 i d hd
      exact ⟨v, h1, x v h2⟩
    · cases hj
  · rw [if_neg hij] at hj
    exact h.2 j q hj
theorem EnvR.start {vs : List V} {ds : List D} (n : Nat) (r : Reps K F vs ds) : EnvR K F (vs.map some ++ List.replicate n none) (ds.map some ++ List.replicate n none) := by
  refine ⟨by simp [r.length], fun i d h => ?_⟩
  rw [List.getElem?_append] at h ⊢
  rw [List.length_map] at h ⊢
  rw [r.length]
  split at h
  · rename_i hl
    rw [if_pos hl]
    rw [List.getElem?_map] at h ⊢
    cases e : ds[i]? with
    | none =>
      rw [e] at h
      cases h
    | some q =>
      rw [e] at h
      cases h
      obtain ⟨v, h1, h2⟩ := r.get e
      exact ⟨v, by rw [h1]; rfl, h2⟩
  · rw [List.getElem?_replicate] at h
    split at h <;> cases h
end
/-! ### readings as data -/
abbrev DK := D → Ow → Prop
abbrev DE := DEnv → Ow → DK → Prop
abbrev DT := DEnv → Ow → (Bool → Ow → Prop) → Prop
abbrev DA := DEnv → Ow → (List D → Ow → Prop) → Prop
/-- an exception that goes out: its class's name, and where its dict is (which is owned) -/
structure XD where
  c : Str
  d : Option Addr
structure DEnds where
  nx : DEnv → Ow → Prop
  rt : DK
  bk : DEnv → Ow → Prop := fun _ _ => False
  ct : DEnv → Ow → Prop := fun _ _ => False
  ex : XD → DEnv → Ow → Prop := fun _ _ _ => False
abbrev DS := DEnds → DEnv → Ow → Prop
section
variable (K : PySem.W.Frag)
def Post (F : Hp) (O : Ow) (H : Hp) (P : DK) (Q : VK) : Prop := ∀ d O' v F' H', P d O' → Stp K F O H F' O' H' → Rep K F' v d → Q v H'
def PostT (F : Hp) (O : Ow) (H : Hp) (P : Bool → Ow → Prop) (Q : Bool → Hp → Prop) : Prop := ∀ b O' F' H', P b O' → Stp K F O H F' O' H' → Q b H'
def PostA (F : Hp) (O : Ow) (H : Hp) (P : List D → Ow → Prop) (Q : List V → Hp → Prop) : Prop := ∀ ds O' vs F' H', P ds O' → Stp K F O H F' O' H' → Reps K F' vs ds → Q vs H'
def PostN (F : Hp) (O : Ow) (H : Hp) (P : DEnv → Ow → Prop) (Q : L2.St → Hp → Prop) : Prop := ∀ ρ' O' σ' F' H', P ρ' O' → Stp K F O H F' O' H' → EnvR K F' σ' ρ' → Q σ' H'
def tD (p : DE) : TE := fun σ H Q => ∃ ρ F O P, EnvR K F σ ρ ∧ Hold K F O H ∧ p ρ O P ∧ Post K F O H P Q
def tT (p : DT) : TT := fun σ H Q => ∃ ρ F O P, EnvR K F σ ρ ∧ Hold K F O H ∧ p ρ O P ∧ PostT K F O H P Q
def tA (p : DA) : TA := fun σ H Q => ∃ ρ F O P, EnvR K F σ ρ ∧ Hold K F O H ∧ p ρ O P ∧ PostA K F O H P Q
def RepX (K : PySem.W.Frag) (cls : Value) (d : Option Addr) (x : XD) : Prop := cls = .ref (He.ga K x.c) ∧ d = x.d
def PostX (F : Hp) (O : Ow) (H : Hp) (P : XD → Ow → Prop) (E : XK) : Prop := ∀ x O' cls d F' H', P x O' → Stp K F O H F' O' H' → RepX K cls d x → E cls d H'
def PostXE (F : Hp) (O : Ow) (H : Hp) (P : XD → DEnv → Ow → Prop) (W : WX) : Prop := ∀ x ρ' O' cls d σ' F' H', P x ρ' O' → Stp K F O H F' O' H' → EnvR K F' σ' ρ' → RepX K cls d x → W cls d σ' H'
structure SPost (F : Hp) (O : Ow) (H : Hp) (G : DEnds) (E : Ends) (W : WX) : Prop where
  nx : PostN K F O H G.nx E.nx
  rt : Post K F O H G.rt E.rt
  bk : PostN K F O H G.bk E.bk
  ct : PostN K F O H G.ct E.ct
  ex : PostXE K F O H G.ex W
def sX (W : WX) (p : DS) : TS := fun E σ H => ∃ ρ F O G, EnvR K F σ ρ ∧ Hold K F O H ∧ p G ρ O ∧ SPost K F O H G E W
abbrev W0 : WX := fun _ _ _ _ => False
abbrev sD (p : DS) : TS := sX K W0 p
/-- a promise over data -/
def spP (g : List D → Ow → DK → Prop) : Sp := fun vs H Q _ => ∃ ds F O P, Reps K F vs ds ∧ Hold K F O H ∧ g ds O P ∧ Post K F O H P Q
end
section
variable {K : PySem.W.Frag} {F F1 : Hp} {O O1 : Ow} {H H1 : Hp}
theorem Post.st {P : DK} {Q : VK} (k : Post K F O H P Q) (s : Stp K F O H F1 O1 H1) : Post K F1 O1 H1 P Q := fun d O' v F' H' q s' r => k d O' v F' H' q (s.tr s') r
theorem PostT.st {P : Bool → Ow → Prop} {Q : Bool → Hp → Prop} (k : PostT K F O H P Q) (s : Stp K F O H F1 O1 H1) : PostT K F1 O1 H1 P Q := fun d O' F' H' q s' => k d O' F' H' q (s.tr s')
theorem PostA.st {P : List D → Ow → Prop} {Q : List V → Hp → Prop} (k : PostA K F O H P Q) (s : Stp K F O H F1 O1 H1) : PostA K F1 O1 H1 P Q := fun d O' v F' H' q s' r => k d O' v F' H' q (s.tr s') r
theorem PostN.st {P : DEnv → Ow → Prop} {Q : L2.St → Hp → Prop} (k : PostN K F O H P Q) (s : Stp K F O H F1 O1 H1) : PostN K F1 O1 H1 P Q := fun d O' v F' H' q s' r => k d O' v F' H' q (s.tr s') r
theorem PostX.st {P : XD → Ow → Prop} {E : XK} (k : PostX K F O H P E) (s : Stp K F O H F1 O1 H1) : PostX K F1 O1 H1 P E := fun x O' cls d F' H' q s' r => k x O' cls d F' H' q (s.tr s') r
theorem PostXE.st {P : XD → DEnv → Ow → Prop} {W : WX} (k : PostXE K F O H P W) (s : Stp K F O H F1 O1 H1) : PostXE K F1 O1 H1 P W := fun x ρ' O' cls d σ' F' H' q s' e r => k x ρ' O' cls d σ' F' H' q (s.tr s') e r
theorem SPost.st {G : DEnds} {E : Ends} {W : WX} (k : SPost K F O H G E W) (s : Stp K F O H F1 O1 H1) : SPost K F1 O1 H1 G E W := ⟨k.nx.st s, k.rt.st s, k.bk.st s, k.ct.st s, k.ex.st s⟩
theorem Post.now {P : DK} {Q : VK} {d : D} {v : V} (k : Post K F O H P Q) (h : Hold K F O H) (r : Rep K F v d) (q : P d O) : Q v H := k d O v F H q (Stp.rfl h) r
end
section
variable {X : Cx} {e : Expr}
theorem PT.imp {t t' : TT} (h : PT X e t) (i : ∀ σ H Q, t' σ H Q → t σ H Q) : PT X e t' := ⟨fun pins s σ H Q I q => h.run pins s σ H Q I (i σ H Q q)⟩
theorem PW.imp {t t' : TT} (h : PW X e t) (i : ∀ σ H Q, t' σ H Q → t σ H Q) : PW X e t' := ⟨fun w pins s σ H Q I q => h.run w pins s σ H Q I (i σ H Q q)⟩
theorem PA.imp {es : List Expr} {t t' : TA} (h : PA X es t) (i : ∀ σ H Q, t' σ H Q → t σ H Q) : PA X es t' := ⟨fun w pins s σ H Q I q => h.run w pins s σ H Q I (i σ H Q q)⟩
theorem PSs.imp {e : List Stmt} {t t' : TS} (h : PSs X e t) (i : ∀ D σ H, t' D σ H → t D σ H) : PSs X e t' := ⟨fun pins s σ H D I q => h.run pins s σ H D I (i D σ H q)⟩
theorem PG.imp {t t' : TG} (h : PG X e t) (i : ∀ v σ H Q, t' v σ H Q → t v σ H Q) : PG X e t' := ⟨fun pins s σ H v u Q I r q => h.run pins s σ H v u Q I r (i v σ H Q q)⟩
end
/-! ### names, constants -/
def dVar (i : Nat) : DE := fun ρ O P => ∃ d, ρ[i]? = some (some d) ∧ P d O
def dC (d : D) : DE := fun _ O P => P d O
section
variable {X : Cx} {e : Expr}
theorem q_var {i : Nat} (h : PE X e (tVar i)) : PE X e (tD X.K (dVar i)) := PE.imp h fun σ H Q q => by
  obtain ⟨ρ, F, O, P, er, ho, ⟨d, hd, hp⟩, k⟩ := q
  obtain ⟨v, h1, h2⟩ := er.2 i d hd
  exact ⟨v, h1, k.now ho h2 hp⟩
theorem q_c {v : V} {d : D} (hr : ∀ F, Rep X.K F v d) (h : PE X e (tC v)) : PE X e (tD X.K (dC d)) := PE.imp h fun σ H Q q => by
  obtain ⟨ρ, F, O, P, er, ho, hp, k⟩ := q
  exact k.now ho (hr F) hp
theorem q_int {i : Int} (h : PE X e (tC (.int i))) : PE X e (tD X.K (dC (.int i))) := q_c (fun _ => .int i) h
theorem q_str {i : Str} (h : PE X e (tC (.str i))) : PE X e (tD X.K (dC (.str i))) := q_c (fun _ => .str i) h
theorem q_bl {i : Bool} (h : PE X e (tC (.bl i))) : PE X e (tD X.K (dC (.bl i))) := q_c (fun _ => .bl i) h
theorem q_non (h : PE X e (tC .non)) : PE X e (tD X.K (dC .non)) := q_c (fun _ => .non) h
theorem q_ref {a : Addr} (h : PE X e (tC (.ref a))) : PE X e (tD X.K (dC (.ref a))) := q_c (fun _ => .ref a) h
theorem q_ty {a : String} (h : PE X e (tC (.ty a))) : PE X e (tD X.K (dC (.ty a))) := q_c (fun _ => .ty a) h
end
/-! ### operations -/
/-- a two-place operation on values does f on data -/
def ROp (K : PySem.W.Frag) (r : R2) (f : D → D → Ow → DK → Prop) : Prop := ∀ F O H v1 d1 v2 d2 P Q, Rep K F v1 d1 → Rep K F v2 d2 → Hold K F O H → f d1 d2 O P → Post K F O H P Q → r v1 v2 H Q
def RUn (K : PySem.W.Frag) (r : V → Hp → VK → Prop) (f : D → Ow → DK → Prop) : Prop := ∀ F O H v1 d1 P Q, Rep K F v1 d1 → Hold K F O H → f d1 O P → Post K F O H P Q → r v1 H Q
def RCl (K : PySem.W.Frag) (r : List V → Hp → VK → Prop) (f : List D → Ow → DK → Prop) : Prop := ∀ F O H vs ds P Q, Reps K F vs ds → Hold K F O H → f ds O P → Post K F O H P Q → r vs H Q
def dOp (f : D → D → Ow → DK → Prop) (pa pb : DE) : DE := fun ρ O P => pa ρ O fun d1 O1 => pb ρ O1 fun d2 O2 => f d1 d2 O2 P
def dUn (f : D → Ow → DK → Prop) (pa : DE) : DE := fun ρ O P => pa ρ O fun d1 O1 => f d1 O1 P
def dCl (f : List D → Ow → DK → Prop) (pa : DA) : DE := fun ρ O P => pa ρ O fun ds O1 => f ds O1 P
section
variable {K : PySem.W.Frag} {pa pb pc : DE}
theorem op_imp {r : R2} {f : D → D → Ow → DK → Prop} (hr : ROp K r f) : ∀ σ H Q, tD K (dOp f pa pb) σ H Q → tOp r (tD K pa) (tD K pb) σ H Q := fun σ H Q q => by
  obtain ⟨ρ, F, O, P, er, ho, hp, k⟩ := q
  refine ⟨ρ, F, O, _, er, ho, hp, fun d1 O1 v1 F1 H1 q1 s1 r1 => ?_⟩
  refine ⟨ρ, F1, O1, _, er.mono s1.same, s1.hold, q1, fun d2 O2 v2 F2 H2 q2 s2 r2 => ?_⟩
  exact hr F2 O2 H2 v1 d1 v2 d2 P Q (r1.mono s2.same) r2 s2.hold q2 (k.st (s1.tr s2))
theorem un_imp {r : V → Hp → VK → Prop} {f : D → Ow → DK → Prop} (hr : RUn K r f) : ∀ σ H Q, tD K (dUn f pa) σ H Q → tUn r (tD K pa) σ H Q := fun σ H Q q => by
  obtain ⟨ρ, F, O, P, er, ho, hp, k⟩ := q
  refine ⟨ρ, F, O, _, er, ho, hp, fun d1 O1 v1 F1 H1 q1 s1 r1 => ?_⟩
  exact hr F1 O1 H1 v1 d1 P Q r1 s1.hold q1 (k.st s1)
theorem cl_imp {r : List V → Hp → VK → Prop} {f : List D → Ow → DK → Prop} {pa : DA} (hr : RCl K r f) : ∀ σ H Q, tD K (dCl f pa) σ H Q → tCB r (tA K pa) σ H Q := fun σ H Q q => by
  obtain ⟨ρ, F, O, P, er, ho, hp, k⟩ := q
  refine ⟨ρ, F, O, _, er, ho, hp, fun d1 O1 v1 F1 H1 q1 s1 r1 => ?_⟩
  exact hr F1 O1 H1 v1 d1 P Q r1 s1.hold q1 (k.st s1)
end
section
variable {X : Cx} {a b c : Expr} {pa pb pc : DE} {pos : Pos}
theorem q_op {op : Operator} {r : R2} {f : D → D → Ow → DK → Prop} (ho : OpR X (binaryOp op) r) (hr : ROp X.K r f) (ha : PE X a (tD X.K pa)) (hb : PE X b (tD X.K pb)) : PE X (.BinOp a op b pos) (tD X.K (dOp f pa pb)) := PE.imp (pe_op ho ha hb) (op_imp hr)
theorem q_cmp {op : CmpOp} {r : R2} {f : D → D → Ow → DK → Prop} (ho : OpR X (compareOp op) r) (hr : ROp X.K r f) (ha : PE X a (tD X.K pa)) (hb : PE X b (tD X.K pb)) (hm : behindInMarks op b = false) : PE X (.Compare a [op] [b] pos) (tD X.K (dOp f pa pb)) := PE.imp (pe_cmpR ho ha hb hm) (op_imp hr)
theorem q_un {op : UnaryOp} {r : V → Hp → VK → Prop} {f : D → Ow → DK → Prop} (ho : UnR X (unaryOp op) r) (hr : RUn X.K r f) (ha : PE X a (tD X.K pa)) : PE X (.UnaryOp op a pos) (tD X.K (dUn f pa)) := PE.imp (pe_un ho ha) (un_imp hr)
theorem q_ix {r : R2} {f : D → D → Ow → DK → Prop} (ho : IxR X r) (hr : ROp X.K r f) (ha : PE X a (tD X.K pa)) (hb : PE X b (tD X.K pb)) (hs : PlainIx b) : PE X (.Subscript a b pos) (tD X.K (dOp f pa pb)) := PE.imp (pe_ix ho ha hb hs) (op_imp hr)
end
/-! ### tests -/
def dTest (p : DE) : DT := fun ρ O P => p ρ O fun d O1 => ∃ b, d = .bl b ∧ P b O1
def dAnd (p q : DT) : DT := fun ρ O P => p ρ O fun b O1 => if b = true then q ρ O1 P else P false O1
def dOr (p q : DT) : DT := fun ρ O P => p ρ O fun b O1 => if b = true then P true O1 else q ρ O1 P
def dNot (p : DT) : DT := fun ρ O P => p ρ O fun b O1 => P (!b) O1
def dAndV (p q : DE) : DE := fun ρ O P => p ρ O fun d O1 => ∃ b, d = .bl b ∧ if b = true then q ρ O1 P else P (.bl false) O1
def dOrV (p q : DE) : DE := fun ρ O P => p ρ O fun d O1 => ∃ b, d = .bl b ∧ if b = true then P (.bl true) O1 else q ρ O1 P
def dNotV (p : DE) : DE := fun ρ O P => p ρ O fun d O1 => ∃ b, d = .bl b ∧ P (.bl (!b)) O1
def dIf (t : DT) (p q : DE) : DE := fun ρ O P => t ρ O fun b O1 => if b = true then p ρ O1 P else q ρ O1 P
section
variable {K : PySem.W.Frag} {pa pb pc : DE} {p q : DT}
theorem test_imp {t : TE} (h : ∀ σ H Q, tD K pa σ H Q → t σ H Q) : ∀ σ H Q, tT K (dTest pa) σ H Q → tTest t σ H Q := fun σ H Q x => by
  obtain ⟨ρ, F, O, P, er, ho, hp, k⟩ := x
  refine h σ H _ ⟨ρ, F, O, _, er, ho, hp, fun d1 O1 v1 F1 H1 q1 s1 r1 => ?_⟩
  obtain ⟨b, rfl, q1⟩ := q1
  cases r1
  exact ⟨b, rfl, k b O1 F1 H1 q1 s1⟩
theorem and_imp : ∀ σ H Q, tT K (dAnd p q) σ H Q → tAnd (tT K p) (tT K q) σ H Q := fun σ H Q x => by
  obtain ⟨ρ, F, O, P, er, ho, hp, k⟩ := x
  refine ⟨ρ, F, O, _, er, ho, hp, fun b O1 F1 H1 q1 s1 => ?_⟩
  cases b with
  | true => exact iteT ⟨ρ, F1, O1, P, er.mono s1.same, s1.hold, q1, k.st s1⟩
  | false => exact iteF (k _ O1 F1 H1 q1 s1)
theorem or_imp : ∀ σ H Q, tT K (dOr p q) σ H Q → tOr (tT K p) (tT K q) σ H Q := fun σ H Q x => by
  obtain ⟨ρ, F, O, P, er, ho, hp, k⟩ := x
  refine ⟨ρ, F, O, _, er, ho, hp, fun b O1 F1 H1 q1 s1 => ?_⟩
  cases b with
  | true => exact iteT (k _ O1 F1 H1 q1 s1)
  | false => exact iteF ⟨ρ, F1, O1, P, er.mono s1.same, s1.hold, q1, k.st s1⟩
theorem not_imp : ∀ σ H Q, tT K (dNot p) σ H Q → tNot (tT K p) σ H Q := fun σ H Q x => by
  obtain ⟨ρ, F, O, P, er, ho, hp, k⟩ := x
  exact ⟨ρ, F, O, _, er, ho, hp, fun b O1 F1 H1 q1 s1 => k _ O1 F1 H1 q1 s1⟩
theorem andV_imp : ∀ σ H Q, tD K (dAndV pa pb) σ H Q → tAndV (tD K pa) (tD K pb) σ H Q := fun σ H Q x => by
  obtain ⟨ρ, F, O, P, er, ho, hp, k⟩ := x
  refine ⟨ρ, F, O, _, er, ho, hp, fun d O1 v F1 H1 q1 s1 r1 => ?_⟩
  obtain ⟨b, rfl, q1⟩ := q1
  cases r1
  refine ⟨b, rfl, ?_⟩
  cases b with
  | true => exact iteT ⟨ρ, F1, O1, P, er.mono s1.same, s1.hold, q1, k.st s1⟩
  | false => exact iteF (k _ O1 _ F1 H1 q1 s1 (.bl _))
theorem orV_imp : ∀ σ H Q, tD K (dOrV pa pb) σ H Q → tOrV (tD K pa) (tD K pb) σ H Q := fun σ H Q x => by
  obtain ⟨ρ, F, O, P, er, ho, hp, k⟩ := x
  refine ⟨ρ, F, O, _, er, ho, hp, fun d O1 v F1 H1 q1 s1 r1 => ?_⟩
  obtain ⟨b, rfl, q1⟩ := q1
  cases r1
  refine ⟨b, rfl, ?_⟩
  cases b with
  | true => exact iteT (k _ O1 _ F1 H1 q1 s1 (.bl _))
  | false => exact iteF ⟨ρ, F1, O1, P, er.mono s1.same, s1.hold, q1, k.st s1⟩
theorem notV_imp : ∀ σ H Q, tD K (dNotV pa) σ H Q → tNotV (tD K pa) σ H Q := fun σ H Q x => by
  obtain ⟨ρ, F, O, P, er, ho, hp, k⟩ := x
  refine ⟨ρ, F, O, _, er, ho, hp, fun d O1 v F1 H1 q1 s1 r1 => ?_⟩
  obtain ⟨b, rfl, q1⟩ := q1
  cases r1
  exact ⟨b, rfl, k _ O1 _ F1 H1 q1 s1 (.bl _)⟩
theorem if_imp : ∀ σ H Q, tD K (dIf p pa pb) σ H Q → tIf (tT K p) (tD K pa) (tD K pb) σ H Q := fun σ H Q x => by
  obtain ⟨ρ, F, O, P, er, ho, hp, k⟩ := x
  refine ⟨ρ, F, O, _, er, ho, hp, fun b O1 F1 H1 q1 s1 => ?_⟩
  cases b with
  | true => exact iteT ⟨ρ, F1, O1, P, er.mono s1.same, s1.hold, q1, k.st s1⟩
  | false => exact iteF ⟨ρ, F1, O1, P, er.mono s1.same, s1.hold, q1, k.st s1⟩
end
section
variable {X : Cx} {a b c : Expr} {rest : List Expr} {pa pb pc : DE} {p q : DT} {pos : Pos}
theorem qt_val (h : PE X a (tD X.K pa)) (he : ∀ whole, isTrue a X.env whole = (do let v ← whole; standAt a.pos; holding [v] (truthy v)) := by intro _; rfl) : PT X a (tT X.K (dTest pa)) := PT.imp (pt_val h he) (test_imp fun _ _ _ x => x)
theorem qt_cmp {op : CmpOp} {r : R2} {f : D → D → Ow → DK → Prop} (ho : OpR X (compareOp op) r) (hr : ROp X.K r f) (ha : PE X a (tD X.K pa)) (hb : PE X b (tD X.K pb)) (hm : behindInMarks op b = false) : PT X (.Compare a [op] [b] pos) (tT X.K (dTest (dOp f pa pb))) := PT.imp (pt_cmpR ho ha hb hm) (test_imp (op_imp hr))
theorem qt_and1 (h : PT X a (tT X.K p)) : PW X (.BoolOp .And [a] pos) (tT X.K p) := pw_and1 h
theorem qt_or1 (h : PT X a (tT X.K p)) : PW X (.BoolOp .Or [a] pos) (tT X.K p) := pw_or1 h
theorem qt_and (ha : PT X a (tT X.K p)) (hb : PW X (.BoolOp .And (b :: rest) pos) (tT X.K q)) : PW X (.BoolOp .And (a :: b :: rest) pos) (tT X.K (dAnd p q)) := PW.imp (pw_and ha hb) and_imp
theorem qt_or (ha : PT X a (tT X.K p)) (hb : PW X (.BoolOp .Or (b :: rest) pos) (tT X.K q)) : PW X (.BoolOp .Or (a :: b :: rest) pos) (tT X.K (dOr p q)) := PW.imp (pw_or ha hb) or_imp
theorem qt_not (h : PT X a (tT X.K p)) : PT X (.UnaryOp .Not a pos) (tT X.K (dNot p)) := PT.imp (pt_not h) not_imp
theorem q_and (ha : PE X a (tD X.K pa)) (hb : PE X (.BoolOp .And (b :: rest) pos) (tD X.K pb)) : PE X (.BoolOp .And (a :: b :: rest) pos) (tD X.K (dAndV pa pb)) := PE.imp (pe_and ha hb) andV_imp
theorem q_or (ha : PE X a (tD X.K pa)) (hb : PE X (.BoolOp .Or (b :: rest) pos) (tD X.K pb)) : PE X (.BoolOp .Or (a :: b :: rest) pos) (tD X.K (dOrV pa pb)) := PE.imp (pe_or ha hb) orV_imp
theorem q_not (h : PE X a (tD X.K pa)) : PE X (.UnaryOp .Not a pos) (tD X.K (dNotV pa)) := PE.imp (pe_not h) notV_imp
theorem q_ifExp (hc : PT X c (tT X.K p)) (ha : PE X a (tD X.K pa)) (hb : PE X b (tD X.K pb)) : PE X (.IfExp c a b pos) (tD X.K (dIf p pa pb)) := PE.imp (pe_ifExp hc ha hb) if_imp
end
/-! ### chains -/
def dChain (f f' : D → D → Ow → DK → Prop) (pa pb pc : DE) : DE := fun ρ O P => pa ρ O fun d1 O1 => pb ρ O1 fun d2 O2 => f d1 d2 O2 fun z O3 => ∃ k, z = .bl k ∧ (if k = true then pc ρ O3 fun d3 O4 => f' d2 d3 O4 P else P (.bl false) O3)
section
variable {K : PySem.W.Frag} {pa pb pc : DE}
theorem chain_imp {r r' : R2} {f f' : D → D → Ow → DK → Prop} (hr : ROp K r f) (hr' : ROp K r' f') : ∀ σ H Q, tD K (dChain f f' pa pb pc) σ H Q → tChain r r' (tD K pa) (tD K pb) (tD K pc) σ H Q := fun σ H Q q => by
  obtain ⟨ρ, F, O, P, er, ho, hp, k⟩ := q
  refine ⟨ρ, F, O, _, er, ho, hp, fun d1 O1 v1 F1 H1 q1 s1 r1 => ?_⟩
  refine ⟨ρ, F1, O1, _, er.mono s1.same, s1.hold, q1, fun d2 O2 v2 F2 H2 q2 s2 r2 => ?_⟩
  refine hr F2 O2 H2 v1 d1 v2 d2 _ _ (r1.mono s2.same) r2 s2.hold q2 fun z O3 v3 F3 H3 q3 s3 r3 => ?_
  obtain ⟨b, rfl, q3⟩ := q3
  cases r3
  refine ⟨b, rfl, ?_⟩
  have s13 := (s1.tr s2).tr s3
  cases b with
  | true =>
    refine iteT ⟨ρ, F3, O3, _, er.mono s13.same, s3.hold, q3, fun d4 O4 v4 F4 H4 q4 s4 r4 => ?_⟩
    exact hr' F4 O4 H4 v2 d2 v4 d4 P Q ((r2.mono s3.same).mono s4.same) r4 s4.hold q4 (k.st (s13.tr s4))
  | false => exact iteF (k _ O3 _ F3 H3 q3 s13 (.bl _))
end
section
variable {X : Cx} {a b c : Expr} {pa pb pc : DE} {pos : Pos} {op op' : CmpOp} {r r' : R2} {f f' : D → D → Ow → DK → Prop}
theorem q_chain (ho : OpR X (compareOp op) r) (ho' : OpR X (compareOp op') r') (hr : ROp X.K r f) (hr' : ROp X.K r' f') (ha : PE X a (tD X.K pa)) (hb : PE X b (tD X.K pb)) (hc : PE X c (tD X.K pc))
    (hm : lastMarks [op, op'] [b, c] = false := by with_unfolding_all rfl) : PE X (.Compare a [op, op'] [b, c] pos) (tD X.K (dChain f f' pa pb pc)) := PE.imp (pe_chain ho ho' ha hb hc hm) (chain_imp hr hr')
theorem qt_chain (ho : OpR X (compareOp op) r) (ho' : OpR X (compareOp op') r') (hr : ROp X.K r f) (hr' : ROp X.K r' f') (ha : PE X a (tD X.K pa)) (hb : PE X b (tD X.K pb)) (hc : PE X c (tD X.K pc))
    (hm : lastMarks [op, op'] [b, c] = false := by with_unfolding_all rfl) : PT X (.Compare a [op, op'] [b, c] pos) (tT X.K (dTest (dChain f f' pa pb pc))) := PT.imp (pt_chain ho ho' ha hb hc hm) (test_imp (chain_imp hr hr'))
end
/-! ### arguments, displays -/
def dNil : DA := fun _ O P => P [] O
def dCons (p : DE) (q : DA) : DA := fun ρ O P => p ρ O fun d O1 => q ρ O1 fun ds O2 => P (d :: ds) O2
def dTup (q : DA) : DE := fun ρ O P => q ρ O fun ds O1 => ds.length ≤ 100000 ∧ P (.tup ds) O1
def dLst (q : DA) : DE := fun ρ O P => q ρ O fun ds O1 => ds.length ≤ 100000 ∧ P (.lst ds) O1
/-- a list that will change -/
def dLstM (q : DA) : DE := fun ρ O P => q ρ O fun ds O1 => ds.length ≤ 100000 ∧ ∀ a, O1 a = none → P (.ref a) (updO O1 a (.lst ds))
section
variable {X : Cx} {e : Expr} {es : List Expr} {p : DE} {q : DA} {pos : Pos}
theorem qa_nil : PA X [] (tA X.K dNil) := PA.imp pa_nil fun σ H Q x => by
  obtain ⟨ρ, F, O, P, er, ho, hp, k⟩ := x
  exact k _ O _ F H hp (Stp.rfl ho) .nil
theorem qa_cons (ha : PE X e (tD X.K p)) (hr : PA X es (tA X.K q)) (hs : starEach (e :: es) X.env = (false, eval e X.env) :: starEach es X.env := by rfl) : PA X (e :: es) (tA X.K (dCons p q)) := PA.imp (pa_cons ha hr hs) fun σ H Q x => by
  obtain ⟨ρ, F, O, P, er, ho, hp, k⟩ := x
  refine ⟨ρ, F, O, _, er, ho, hp, fun d1 O1 v1 F1 H1 q1 s1 r1 => ?_⟩
  refine ⟨ρ, F1, O1, _, er.mono s1.same, s1.hold, q1, fun ds O2 vs F2 H2 q2 s2 r2 => ?_⟩
  exact k _ O2 _ F2 H2 q2 (s1.tr s2) (.cons (r1.mono s2.same) r2)
theorem q_tup {x1} (h : PA X es (tA X.K q)) : PE X (.Tuple es x1 pos) (tD X.K (dTup q)) := PE.imp (pe_tup h) fun σ H Q x => by
  obtain ⟨ρ, F, O, P, er, ho, hp, k⟩ := x
  refine ⟨ρ, F, O, _, er, ho, hp, fun ds O1 vs F1 H1 q1 s1 r1 => ⟨?_, fun a ha => ?_⟩⟩
  · rw [r1.length]
    exact sz_of q1.1
  · have s2 := s1.hold.new (o := .tup vs) ha
    exact k _ O1 _ _ _ q1.2 (s1.tr s2) (.tup (.inl upd_same) (r1.mono s2.same))
theorem q_lst (h : PA X es (tA X.K q)) : PE X (.List es pos) (tD X.K (dLst q)) := PE.imp (pe_lst h) fun σ H Q x => by
  obtain ⟨ρ, F, O, P, er, ho, hp, k⟩ := x
  refine ⟨ρ, F, O, _, er, ho, hp, fun ds O1 vs F1 H1 q1 s1 r1 => ⟨?_, fun a ha => ?_⟩⟩
  · rw [r1.length]
    exact sz_of q1.1
  · have s2 := s1.hold.new (o := .lst vs) ha
    exact k _ O1 _ _ _ q1.2 (s1.tr s2) (.lst upd_same (r1.mono s2.same))
theorem q_lstM (h : PA X es (tA X.K q)) : PE X (.List es pos) (tD X.K (dLstM q)) := PE.imp (pe_lst h) fun σ H Q x => by
  obtain ⟨ρ, F, O, P, er, ho, hp, k⟩ := x
  refine ⟨ρ, F, O, _, er, ho, hp, fun ds O1 vs F1 H1 q1 s1 r1 => ⟨?_, fun a ha => ?_⟩⟩
  · rw [r1.length]
    exact sz_of q1.1
  · have s2 := s1.hold.newM (m := .lst ds) (o := .lst vs) ha ⟨vs, rfl, r1⟩
    exact k _ _ _ _ _ (q1.2 a (s1.hold.free ha).2) (s1.tr s2) (.ref a)
end
/-! ### calls of defs -/
section
variable {X : Cx} {k : Nat} {f : Addr} {fd : FuncData} {ps : List Str} {g : List D → Ow → DK → Prop} {x : Str} {p pos : Pos} {e : Expr} {es : List Expr} {q : DA}
theorem call_imp {K : PySem.W.Frag} {E : XK} : ∀ σ H Q, tD K (dCl g q) σ H Q → tCall (spP K g) [] E (tA K q) σ H Q := fun σ H Q x => by
  obtain ⟨ρ, F, O, P, er, ho, hp, k⟩ := x
  refine ⟨ρ, F, O, _, er, ho, hp, fun ds O1 vs F1 H1 q1 s1 r1 => ?_⟩
  exact ⟨ds, F1, O1, P, by rw [List.append_nil]; exact r1, s1.hold, q1, k.st s1⟩
theorem q_call (F : FnOk X.prog X.w X.K X.mg X.base CX0 k f fd ps (spP X.K g)) (hr : Room k X.A) (hg : Gl X x) (hm : X.mg x = some (.ref f)) (hk : PySem.W.keepIn X.K (.ref f) = true) (hb : Binds X.K fd ps [])
    (ha : PA X (e :: es) (tA X.K q)) (hdb : (x == ("__debug__" : Str)) = false := by decide) (he : starEach (e :: es) X.env = (false, eval e X.env) :: starEach es X.env := by rfl) (hpl : (backTo pos (starEach es X.env)).any (·.1) = false := by rfl) :
    PE X (.Call (.Name x p) (e :: es) [] pos) (tD X.K (dCl g q)) := PE.imp (pe_call F hr hg hm hk hb .nil (E := E0) (fun _ _ _ _ _ _ _ z => False.elim z) ha hdb he hpl) call_imp
theorem q_call0 (F : FnOk X.prog X.w X.K X.mg X.base CX0 k f fd ps (spP X.K g)) (hr : Room k X.A) (hg : Gl X x) (hm : X.mg x = some (.ref f)) (hk : PySem.W.keepIn X.K (.ref f) = true) (hb : Binds X.K fd ps [])
    (hdb : (x == ("__debug__" : Str)) = false := by decide) : PE X (.Call (.Name x p) [] [] pos) (tD X.K (dCl g dNil)) := PE.imp (pe_call0 F hr hg hm hk hb .nil (E := E0) (fun _ _ _ _ _ _ _ z => False.elim z) hdb) fun σ H Q x => by
  obtain ⟨ρ, F, O, P, er, ho, hp, k⟩ := x
  exact ⟨[], F, O, P, .nil, ho, hp, k⟩
/-- built-ins by name -/
theorem q_cb {r : List V → Hp → VK → Prop} {f : List D → Ow → DK → Prop} {id : String} (hc : CallR X (.builtin id) r) (hr : RCl X.K r f) (hg : Gl X x) (hm : X.mg x = none) (hv : bootBuiltins x = some (.builtin id)) (ha : PA X (e :: es) (tA X.K q)) (hn : x ≠ "__name__" := by decide) (hdb : (x == ("__debug__" : Str)) = false := by decide)
    (he : starEach (e :: es) X.env = (false, eval e X.env) :: starEach es X.env := by rfl) (hpl : (backTo pos (starEach es X.env)).any (·.1) = false := by rfl) : PE X (.Call (.Name x p) (e :: es) [] pos) (tD X.K (dCl f q)) := PE.imp (pe_callB hc hg hm hv ha hn hdb he hpl) (cl_imp hr)
theorem q_ct {r : List V → Hp → VK → Prop} {f : List D → Ow → DK → Prop} {T : String} (hc : CallR X (.type T) r) (hr : RCl X.K r f) (hg : Gl X x) (hm : X.mg x = none) (hv : bootBuiltins x = some (.type T)) (ha : PA X (e :: es) (tA X.K q)) (hn : x ≠ "__name__" := by decide) (hdb : (x == ("__debug__" : Str)) = false := by decide)
    (he : starEach (e :: es) X.env = (false, eval e X.env) :: starEach es X.env := by rfl) (hpl : (backTo pos (starEach es X.env)).any (·.1) = false := by rfl) : PE X (.Call (.Name x p) (e :: es) [] pos) (tD X.K (dCl f q)) := PE.imp (pe_callTy hc hg hm hv ha hn hdb he hpl) (cl_imp hr)
end
/-! ### targets -/
abbrev DG := D → DEnv → Ow → (DEnv → Ow → Prop) → Prop
abbrev DGs := List D → DEnv → Ow → (DEnv → Ow → Prop) → Prop
def tG (K : PySem.W.Frag) (g : DG) : TG := fun v σ H Q => ∃ d ρ F O P, Rep K F v d ∧ EnvR K F σ ρ ∧ Hold K F O H ∧ g d ρ O P ∧ PostN K F O H P Q
def tGs (K : PySem.W.Frag) (g : DGs) : TGs := fun v σ H Q => ∃ d ρ F O P, Reps K F v d ∧ EnvR K F σ ρ ∧ Hold K F O H ∧ g d ρ O P ∧ PostN K F O H P Q
def eName (i : Nat) : DG := fun d ρ O P => P (ρ.set i (some d)) O
def eNil : DGs := fun ds ρ O P => ds = [] ∧ P ρ O
def eCons (g : DG) (h : DGs) : DGs := fun ds ρ O P => ∃ d r, ds = d :: r ∧ g d ρ O fun ρ1 O1 => h r ρ1 O1 P
def eTup (n : Nat) (h : DGs) : DG := fun d ρ O P => ∃ ds, d = .tup ds ∧ ds.length = n ∧ h ds ρ O P
section
variable {X : Cx} {e : Expr} {es : List Expr} {pos : Pos}
theorem PGs.imp {t t' : TGs} (h : PGs X es t) (i : ∀ v σ H Q, t' v σ H Q → t v σ H Q) : PGs X es t' := ⟨fun pins s σ H v u Q I r q => h.run pins s σ H v u Q I r (i v σ H Q q)⟩
theorem qg_name {i : Nat} (h : PG X e (gName i)) : PG X e (tG X.K (eName i)) := PG.imp h fun v σ H Q x => by
  obtain ⟨d, ρ, F, O, P, r, er, ho, hp, k⟩ := x
  exact k _ O _ F H hp (Stp.rfl ho) (er.set i r)
theorem qgs_nil : PGs X [] (tGs X.K eNil) := PGs.imp pgs_nil fun v σ H Q x => by
  obtain ⟨d, ρ, F, O, P, r, er, ho, ⟨rfl, hp⟩, k⟩ := x
  cases r
  exact ⟨rfl, k _ O _ F H hp (Stp.rfl ho) er⟩
theorem qgs_cons {g : DG} {h : DGs} (h1 : PG X e (tG X.K g)) (h2 : PGs X es (tGs X.K h)) (hs : (assignEach (e :: es) X.env).map (·.2) = assign e X.env :: (assignEach es X.env).map (·.2) := by rfl) : PGs X (e :: es) (tGs X.K (eCons g h)) := PGs.imp (pgs_cons h1 h2 hs) fun v σ H Q x => by
  obtain ⟨d, ρ, F, O, P, r, er, ho, ⟨d1, r1, rfl, hp⟩, k⟩ := x
  cases r with
  | cons r rr =>
    refine ⟨_, _, rfl, d1, ρ, F, O, _, r, er, ho, hp, fun ρ1 O1 σ1 F1 H1 q1 s1 er1 => ?_⟩
    exact ⟨_, ρ1, F1, O1, P, rr.mono s1.same, er1, s1.hold, q1, k.st s1⟩
theorem qg_tup {k1 : Nat} {h : DGs} {n : Nat} (hc : X.calm = true) (h1 : PGs X es (tGs X.K h)) (hn : (assignEach es X.env).length = n := by rfl) (hst : (assignEach es X.env).findIdx? (·.1) = none := by rfl) : PG X (.Tuple es k1 pos) (tG X.K (eTup n h)) := PG.imp (pg_tup hc h1 hn hst) fun v σ H Q x => by
  obtain ⟨d, ρ, F, O, P, r, er, ho, ⟨ds, rfl, hl, hp⟩, k⟩ := x
  cases r with
  | tup hf rr => exact ⟨_, _, rfl, hf.sq ho.sub, by rw [rr.length]; exact hl, ds, ρ, F, O, P, rr, er, ho, hp, k⟩
end
/-! ### statements -/
def dSeq (p q : DS) : DS := fun G ρ O => p { G with nx := q G } ρ O
def dNext : DS := fun G ρ O => G.nx ρ O
def dBreak : DS := fun G ρ O => G.bk ρ O
def dCont : DS := fun G ρ O => G.ct ρ O
def dNever : DS := fun _ _ _ => False
def dDrop (p : DE) : DS := fun G ρ O => p ρ O fun _ O1 => G.nx ρ O1
def dRet (p : DE) : DS := fun G ρ O => p ρ O G.rt
def dRetN : DS := fun G _ O => G.rt .non O
def dIfS (t : DT) (p q : DS) : DS := fun G ρ O => t ρ O fun b O1 => if b = true then p G ρ O1 else q G ρ O1
def dAsg (p : DE) (g : DG) : DS := fun G ρ O => p ρ O fun d O1 => g d ρ O1 G.nx
def dPar (i j : Nat) (p : DA) : DS := fun G ρ O => p ρ O fun ds O1 => ∃ u v, ds = [u, v] ∧ G.nx ((ρ.set i (some u)).set j (some v)) O1
def dPar3 (i j l : Nat) (p : DA) : DS := fun G ρ O => p ρ O fun ds O1 => ∃ u v w, ds = [u, v, w] ∧ G.nx (((ρ.set i (some u)).set j (some v)).set l (some w)) O1
def dAug (i : Nat) (p : DE) (f : Int → Int → Int) : DS := fun G ρ O => ∃ a, ρ[i]? = some (some (.int a)) ∧ p ρ O fun d O1 => ∃ b, d = .int b ∧ G.nx (ρ.set i (some (.int (f a b)))) O1
def dWhile (t : DT) (p : DS) : DS := fun G ρ O => ∃ I : Nat → DEnv → Ow → Prop, (∃ m, I m ρ O) ∧ ∀ m ρ O, I m ρ O → t ρ O fun b O1 =>
  if b = true then p { G with nx := fun ρ' O' => ∃ m', m' < m ∧ I m' ρ' O', ct := fun ρ' O' => ∃ m', m' < m ∧ I m' ρ' O', bk := G.nx } ρ O1 else G.nx ρ O1
/-- the turns over the data ds -/
def dTurns (ds : List D) (g : DG) (p : DS) : DS := fun G ρ O => ∃ I : Nat → DEnv → Ow → Prop, I 0 ρ O ∧ (∀ i d ρ O, ds[i]? = some d → I i ρ O → g d ρ O fun ρ1 O1 => p { G with nx := I (i + 1), ct := I (i + 1), bk := G.nx } ρ1 O1) ∧ ∀ ρ O, I ds.length ρ O → G.nx ρ O
def dForL (q : DE) (g : DG) (p : DS) : DS := fun G ρ O => q ρ O fun d O1 => ∃ ds, (d = .lst ds ∨ d = .scr ds) ∧ dTurns ds g p G ρ O1
def dForT (q : DE) (g : DG) (p : DS) : DS := fun G ρ O => q ρ O fun d O1 => ∃ ds, d = .tup ds ∧ dTurns ds g p G ρ O1
def rngD (lo : Int) (n : Nat) : List D := (List.range n).map fun (i : Nat) => D.int (lo + (i : Int))
def dForR (q : DA) (g : DG) (p : DS) : DS := fun G ρ O => q ρ O fun ds O1 => ∃ j : Int, ds = [.int j] ∧ -(2 ^ 62) ≤ j ∧ j < 2 ^ 62 ∧ dTurns (rngD 0 j.toNat) g p G ρ O1
def dForR2 (q : DA) (g : DG) (p : DS) : DS := fun G ρ O => q ρ O fun ds O1 => ∃ i j : Int, ds = [.int i, .int j] ∧ (-(2 ^ 62) ≤ i ∧ i < 2 ^ 62 ∧ -(2 ^ 62) ≤ j ∧ j < 2 ^ 62) ∧ dTurns (rngD i (j - i).toNat) g p G ρ O1
/-- an owned list in slot i is frozen ahead of a statement -/
def dFreeze (i : Nat) (p : DS) : DS := fun G ρ O => ∃ a ds, ρ[i]? = some (some (.ref a)) ∧ O a = some (.lst ds) ∧ p G (ρ.set i (some (.lst ds))) (delO O a)
theorem rngD_get {lo : Int} {n i : Nat} {d : D} (h : (rngD lo n)[i]? = some d) : i < n ∧ d = .int (lo + i) := by
  unfold rngD at h
  rw [List.getElem?_map] at h
  by_cases hi : i < n
  · rw [List.getElem?_range hi] at h
    cases h
    exact ⟨hi, rfl⟩
  · rw [List.getElem?_eq_none (by rw [List.length_range]; omega)] at h
    cases h
theorem rngD_at {lo : Int} {n i : Nat} (h : i < n) : (rngD lo n)[i]? = some (.int (lo + i)) := by
  unfold rngD
  rw [List.getElem?_map, List.getElem?_range h]
  rfl
theorem rngD_len {lo : Int} {n : Nat} : (rngD lo n).length = n := by
  unfold rngD
  rw [List.length_map, List.length_range]
section
variable {X : Cx} {st : Stmt} {rest : List Stmt} {p q : DS} {e : Expr} {pe : DE} {pt : DT} {pa : DA} {pos : Pos}
theorem qss_nil : PSs X [] (sX X.K W dNext) := PSs.imp pss_nil fun E σ H x => by
  obtain ⟨ρ, F, O, G, er, ho, hp, k⟩ := x
  exact k.nx _ O _ F H hp (Stp.rfl ho) er
theorem qss_one (h : PS X st (sX X.K W p)) : PSs X [st] (sX X.K W p) := pss_one h
theorem qss_cons (h1 : PS X st (sX X.K W p)) (h2 : PSs X rest (sX X.K W q)) : PSs X (st :: rest) (sX X.K W (dSeq p q)) := PSs.imp (pss_cons h1 h2) fun E σ H x => by
  obtain ⟨ρ, F, O, G, er, ho, hp, k⟩ := x
  refine ⟨ρ, F, O, _, er, ho, hp, ⟨fun ρ1 O1 σ1 F1 H1 q1 s1 er1 => ?_, k.rt, k.bk, k.ct, k.ex⟩⟩
  exact ⟨ρ1, F1, O1, G, er1, s1.hold, q1, k.st s1⟩
theorem qs_next (h : PS X st tNext) : PS X st (sX X.K W dNext) := PS.imp h fun E σ H x => by
  obtain ⟨ρ, F, O, G, er, ho, hp, k⟩ := x
  exact k.nx _ O _ F H hp (Stp.rfl ho) er
theorem qs_break (h : PS X st tBreak) : PS X st (sX X.K W dBreak) := PS.imp h fun E σ H x => by
  obtain ⟨ρ, F, O, G, er, ho, hp, k⟩ := x
  exact k.bk _ O _ F H hp (Stp.rfl ho) er
theorem qs_cont (h : PS X st tCont) : PS X st (sX X.K W dCont) := PS.imp h fun E σ H x => by
  obtain ⟨ρ, F, O, G, er, ho, hp, k⟩ := x
  exact k.ct _ O _ F H hp (Stp.rfl ho) er
theorem qs_never : PS X st (sX X.K W dNever) := PS.imp ps_never fun E σ H x => by
  obtain ⟨ρ, F, O, G, er, ho, hp, k⟩ := x
  exact hp.elim
theorem qs_expr (he : PE X e (tD X.K pe)) (hs : swapsWith e none pos.line X.env = pure false := by rfl) : PS X (.Expr e pos) (sX X.K W (dDrop pe)) := PS.imp (ps_expr he hs) fun E σ H x => by
  obtain ⟨ρ, F, O, G, er, ho, hp, k⟩ := x
  exact ⟨ρ, F, O, _, er, ho, hp, fun d O1 v F1 H1 q1 s1 r1 => k.nx _ O1 _ F1 H1 q1 s1 (er.mono s1.same)⟩
theorem qs_ret (he : PE X e (tD X.K pe)) : PS X (.Return (some e) pos) (sX X.K W (dRet pe)) := PS.imp (ps_ret he) fun E σ H x => by
  obtain ⟨ρ, F, O, G, er, ho, hp, k⟩ := x
  exact ⟨ρ, F, O, _, er, ho, hp, k.rt⟩
theorem qs_retN : PS X (.Return none pos) (sX X.K W dRetN) := PS.imp ps_retN fun E σ H x => by
  obtain ⟨ρ, F, O, G, er, ho, hp, k⟩ := x
  exact k.rt.now ho .non hp
theorem qs_if {c : Expr} {a b : List Stmt} (hc : PT X c (tT X.K pt)) (ha : PSs X a (sX X.K W p)) (hb : PSs X b (sX X.K W q)) : PS X (.If c a b pos) (sX X.K W (dIfS pt p q)) := PS.imp (ps_if hc ha hb) fun E σ H x => by
  obtain ⟨ρ, F, O, G, er, ho, hp, k⟩ := x
  refine ⟨ρ, F, O, _, er, ho, hp, fun b O1 F1 H1 q1 s1 => ?_⟩
  cases b with
  | true => exact iteT ⟨ρ, F1, O1, G, er.mono s1.same, s1.hold, q1, k.st s1⟩
  | false => exact iteF ⟨ρ, F1, O1, G, er.mono s1.same, s1.hold, q1, k.st s1⟩
theorem asg_imp {K : PySem.W.Frag} {g : DG} {tg : TG} (hg : ∀ v σ H Q, tG K g v σ H Q → tg v σ H Q) : ∀ E σ H, sX K W (dAsg pe g) E σ H → tAsg (tD K pe) tg E σ H := fun E σ H x => by
  obtain ⟨ρ, F, O, G, er, ho, hp, k⟩ := x
  refine ⟨ρ, F, O, _, er, ho, hp, fun d O1 v F1 H1 q1 s1 r1 => hg _ _ _ _ ?_⟩
  exact ⟨d, ρ, F1, O1, _, r1, er.mono s1.same, s1.hold, q1, k.nx.st s1⟩
theorem name_imp {K : PySem.W.Frag} {i : Nat} : ∀ v σ H Q, tG K (eName i) v σ H Q → gName i v σ H Q := fun v σ H Q x => by
  obtain ⟨d, ρ, F, O, P, r, er, ho, hp, k⟩ := x
  exact k _ O _ F H hp (Stp.rfl ho) (er.set i r)
theorem qs_asg {tg : Expr} {g : DG} (he : PE X e (tD X.K pe)) (hg : PG X tg (tG X.K g)) (hs : swapsWithSole [tg] e pos.line X.env = pure false := by rfl) (hw : swappedStores [tg] e X.env = pure none := by rfl)
    (h1 : (assignEach [tg] X.env).map (·.2) = [assign tg X.env] := by rfl) : PS X (.Assign [tg] e pos) (sX X.K W (dAsg pe g)) := PS.imp (ps_asg he hg hs hw h1) (asg_imp fun _ _ _ _ x => x)
theorem qs_set {i : Nat} (h : PS X st (tAsg (tD X.K pe) (gName i))) : PS X st (sX X.K W (dAsg pe (eName i))) := PS.imp h (asg_imp name_imp)
theorem qs_par {i j : Nat} (h : PS X st (tPar i j (tA X.K pa))) : PS X st (sX X.K W (dPar i j pa)) := PS.imp h fun E σ H x => by
  obtain ⟨ρ, F, O, G, er, ho, hp, k⟩ := x
  refine ⟨ρ, F, O, _, er, ho, hp, fun ds O1 vs F1 H1 q1 s1 r1 => ?_⟩
  obtain ⟨u, v, rfl, q1⟩ := q1
  cases r1 with
  | cons a b =>
    cases b with
    | cons b c =>
      cases c
      exact ⟨_, _, rfl, k.nx _ O1 _ F1 H1 q1 s1 (((er.mono s1.same).set i a).set j b)⟩
theorem qs_par3 {i j l : Nat} (h : PS X st (tPar3 i j l (tA X.K pa))) : PS X st (sX X.K W (dPar3 i j l pa)) := PS.imp h fun E σ H x => by
  obtain ⟨ρ, F, O, G, er, ho, hp, k⟩ := x
  refine ⟨ρ, F, O, _, er, ho, hp, fun ds O1 vs F1 H1 q1 s1 r1 => ?_⟩
  obtain ⟨u, v, w, rfl, q1⟩ := q1
  cases r1 with
  | cons a b =>
    cases b with
    | cons b c =>
      cases c with
      | cons c d =>
        cases d
        exact ⟨_, _, _, rfl, k.nx _ O1 _ F1 H1 q1 s1 ((((er.mono s1.same).set i a).set j b).set l c)⟩
theorem qs_aug {i : Nat} {f : Int → Int → Int} (h : PS X st (tAug i (tD X.K pe) (ipI f))) : PS X st (sX X.K W (dAug i pe f)) := PS.imp h fun E σ H x => by
  obtain ⟨ρ, F, O, G, er, ho, ⟨a, ha, hp⟩, k⟩ := x
  obtain ⟨v, h1, h2⟩ := er.2 i _ ha
  cases h2
  refine ⟨_, h1, ρ, F, O, _, er, ho, hp, fun d O1 v F1 H1 q1 s1 r1 => ?_⟩
  obtain ⟨b, rfl, q1⟩ := q1
  cases r1
  exact ⟨a, b, rfl, rfl, k.nx _ O1 _ F1 H1 q1 s1 ((er.mono s1.same).set i (.int _))⟩
theorem qs_while (h : PS X st (tWhile (tT X.K pt) (sX X.K W p))) : PS X st (sX X.K W (dWhile pt p)) := PS.imp h fun E σ H x => by
  obtain ⟨ρ, F, O, G, er, ho, ⟨I, ⟨m0, i0⟩, turn⟩, k⟩ := x
  refine ⟨fun m σ1 H1 => ∃ ρ1 F1 O1, EnvR X.K F1 σ1 ρ1 ∧ Stp X.K F O H F1 O1 H1 ∧ I m ρ1 O1, ⟨m0, ρ, F, O, er, Stp.rfl ho, i0⟩, ?_⟩
  rintro m σ1 H1 ⟨ρ1, F1, O1, er1, s1, i1⟩
  refine ⟨ρ1, F1, O1, _, er1, s1.hold, turn m ρ1 O1 i1, fun b O2 F2 H2 q2 s2 => ?_⟩
  have s12 := s1.tr s2
  cases b with
  | true =>
    refine iteT ⟨fun σ3 H3 => ∃ m', m' < m ∧ ∃ ρ1 F1 O1, EnvR X.K F1 σ3 ρ1 ∧ Stp X.K F O H F1 O1 H3 ∧ I m' ρ1 O1, fun _ _ z => z, ?_⟩
    refine ⟨ρ1, F2, O2, _, er1.mono s2.same, s2.hold, q2, ⟨?_, k.rt.st s12, k.nx.st s12, ?_, k.ex.st s12⟩⟩
    · rintro ρ3 O3 σ3 F3 H3 ⟨m', hm, i3⟩ s3 er3
      exact ⟨m', hm, ρ3, F3, O3, er3, s12.tr s3, i3⟩
    · rintro ρ3 O3 σ3 F3 H3 ⟨m', hm, i3⟩ s3 er3
      exact ⟨m', hm, ρ3, F3, O3, er3, s12.tr s3, i3⟩
  | false => exact iteF (k.nx _ O2 _ F2 H2 q2 s12 (er1.mono s2.same))
/-- the turns, from what the iterator yields -/
theorem turns_imp {K : PySem.W.Frag} {g : DG} {ds : List D} {F F1 : Hp} {O O1 : Ow} {H H1 : Hp} {G : DEnds} {E : Ends} {σ : L2.St} {ρ : DEnv} {J : It} (er : EnvR K F1 σ ρ) (s0 : Stp K F O H F1 O1 H1) (k : SPost K F O H G E W)
    (hgo : ∀ i F2 O2 H2, i < ds.length → Stp K F1 O1 H1 F2 O2 H2 → J.go i H2) (hst : ∀ F2 O2 H2, Stp K F1 O1 H1 F2 O2 H2 → J.stop ds.length H2)
    (hy : ∀ i d F2 O2 H2 x H3, ds[i]? = some d → Stp K F1 O1 H1 F2 O2 H2 → J.yld i H2 x H3 → ∃ F3, Stp K F2 O2 H2 F3 O2 H3 ∧ Rep K F3 x d)
    (h : dTurns ds g p G ρ O1) : ∃ Y : Nat → Nat → L2.St → Hp → Prop, (∃ m, Y 0 m σ H1) ∧ ∀ i m σ H, Y i m σ H →
      (J.stop i H ∧ E.nx σ H) ∨ (J.go i H ∧ ∃ N : L2.St → Hp → Prop, (∀ σ' H', N σ' H' → ∃ m', m' < m ∧ Y (i + 1) m' σ' H') ∧ ∀ x H', J.yld i H x H' → tG K g x σ H' fun σ2 H2 => sX K W p { E with nx := N, ct := N, bk := E.nx } σ2 H2) := by
  obtain ⟨I, i0, turn, fin⟩ := h
  refine ⟨fun i m σ2 H2 => m = ds.length - i ∧ i ≤ ds.length ∧ ∃ ρ2 F2 O2, EnvR K F2 σ2 ρ2 ∧ Stp K F1 O1 H1 F2 O2 H2 ∧ I i ρ2 O2, ⟨_, rfl, Nat.zero_le _, ρ, F1, O1, er, Stp.rfl s0.hold, i0⟩, ?_⟩
  rintro i m σ2 H2 ⟨rfl, hi, ρ2, F2, O2, er2, s2, i2⟩
  by_cases hl : i < ds.length
  · refine .inr ⟨hgo i F2 O2 H2 hl s2, fun σ3 H3 => ∃ ρ3 F3 O3, EnvR K F3 σ3 ρ3 ∧ Stp K F1 O1 H1 F3 O3 H3 ∧ I (i + 1) ρ3 O3, fun σ' H' z => ⟨ds.length - (i + 1), by omega, rfl, hl, z⟩, fun x H3 y => ?_⟩
    have hd : ds[i]? = some ds[i] := List.getElem?_eq_getElem hl
    obtain ⟨F3, s3, r3⟩ := hy i _ F2 O2 H2 x H3 hd s2 y
    have s23 := s2.tr s3
    refine ⟨_, ρ2, F3, O2, _, r3, er2.mono s3.same, s3.hold, turn i _ ρ2 O2 hd i2, fun ρ4 O4 σ4 F4 H4 q4 s4 er4 => ?_⟩
    have s24 := s23.tr s4
    have s04 := s0.tr s24
    exact ⟨ρ4, F4, O4, _, er4, s4.hold, q4, ⟨fun ρ5 O5 σ5 F5 H5 q5 s5 er5 => ⟨ρ5, F5, O5, er5, s24.tr s5, q5⟩, k.rt.st s04, k.nx.st s04, fun ρ5 O5 σ5 F5 H5 q5 s5 er5 => ⟨ρ5, F5, O5, er5, s24.tr s5, q5⟩, k.ex.st s04⟩⟩
  · have e : i = ds.length := by omega
    subst e
    exact .inl ⟨hst F2 O2 H2 s2, k.nx _ O2 _ F2 H2 (fin ρ2 O2 i2) (s0.tr s2) er2⟩
theorem qs_forL {g : DG} (h : PS X st (tFor (iList X.K (tD X.K pe)) (tG X.K g) (sX X.K W p))) : PS X st (sX X.K W (dForL pe g p)) := PS.imp h fun E σ H x => by
  obtain ⟨ρ, F, O, G, er, ho, hp, k⟩ := x
  refine ⟨ρ, F, O, _, er, ho, hp, fun d O1 v F1 H1 q1 s1 r1 => ?_⟩
  obtain ⟨ds, hd, ht⟩ := q1
  have hv : ∃ a vs, v = .ref a ∧ SqL X.K F1 a vs ∧ Reps X.K F1 vs ds := by
    rcases hd with rfl | rfl
    · cases r1 with
      | lst h r => exact ⟨_, _, rfl, SqL.of h, r⟩
    · cases r1 with
      | scr h r => exact ⟨_, _, rfl, h, r⟩
  obtain ⟨a, vs, rfl, hs, rr⟩ := hv
  refine ⟨a, rfl, ⟨vs, Same.seq s1.hold.sub hs⟩, turns_imp (er.mono s1.same) s1 k (fun i F2 O2 H2 hi s2 => ?_) (fun F2 O2 H2 s2 => ?_) (fun i d F2 O2 H2 x H3 hi s2 y => ?_) ht⟩
  · have hv : i < vs.length := by rw [rr.length]; exact hi
    exact ⟨vs, vs[i], Same.seq (s2.same.trans s2.hold.sub) hs, List.getElem?_eq_getElem hv⟩
  · exact ⟨vs, Same.seq (s2.same.trans s2.hold.sub) hs, by rw [rr.length]; exact Nat.le_refl _⟩
  · obtain ⟨e, y⟩ := y
    subst e
    have hx := y vs (Same.seq (s2.same.trans s2.hold.sub) hs)
    obtain ⟨d', h1, h2⟩ := rr.getV hx
    rw [hi] at h1
    cases h1
    exact ⟨F2, Stp.rfl s2.hold, h2.mono s2.same⟩
theorem qs_forT {g : DG} (h : PS X st (tFor (iTup X.K (tD X.K pe)) (tG X.K g) (sX X.K W p))) : PS X st (sX X.K W (dForT pe g p)) := PS.imp h fun E σ H x => by
  obtain ⟨ρ, F, O, G, er, ho, hp, k⟩ := x
  refine ⟨ρ, F, O, _, er, ho, hp, fun d O1 v F1 H1 q1 s1 r1 => ?_⟩
  obtain ⟨ds, rfl, ht⟩ := q1
  cases r1 with
  | tup hs rr =>
    rename_i a vs
    refine ⟨a, rfl, ⟨vs, hs.sq s1.hold.sub⟩, turns_imp (er.mono s1.same) s1 k (fun i F2 O2 H2 hi s2 => ?_) (fun F2 O2 H2 s2 => ?_) (fun i d F2 O2 H2 x H3 hi s2 y => ?_) ht⟩
    · have hv : i < vs.length := by rw [rr.length]; exact hi
      exact ⟨vs, vs[i], (hs.mono s2.same).sq s2.hold.sub, List.getElem?_eq_getElem hv⟩
    · exact ⟨vs, (hs.mono s2.same).sq s2.hold.sub, by rw [rr.length]; exact Nat.le_refl _⟩
    · obtain ⟨e, y⟩ := y
      subst e
      have hx := y vs ((hs.mono s2.same).sq s2.hold.sub)
      obtain ⟨d', h1, h2⟩ := rr.getV hx
      rw [hi] at h1
      cases h1
      exact ⟨F2, Stp.rfl s2.hold, h2.mono s2.same⟩
theorem rng_turns {K : PySem.W.Frag} {g : DG} {lo : Int} {n : Nat} {F F1 : Hp} {O O1 : Ow} {H H1 : Hp} {G : DEnds} {E : Ends} {σ : L2.St} {ρ : DEnv} (er : EnvR K F1 σ ρ) (s0 : Stp K F O H F1 O1 H1) (k : SPost K F O H G E W) (h : dTurns (rngD lo n) g p G ρ O1) :
    ∃ Y : Nat → Nat → L2.St → Hp → Prop, (∃ m, Y 0 m σ H1) ∧ ∀ i m σ H, Y i m σ H →
      ((Itr lo n).stop i H ∧ E.nx σ H) ∨ ((Itr lo n).go i H ∧ ∃ N : L2.St → Hp → Prop, (∀ σ' H', N σ' H' → ∃ m', m' < m ∧ Y (i + 1) m' σ' H') ∧ ∀ x H', (Itr lo n).yld i H x H' → tG K g x σ H' fun σ2 H2 => sX K W p { E with nx := N, ct := N, bk := E.nx } σ2 H2) :=
  turns_imp er s0 k (fun i F2 O2 H2 hi _ => by rw [rngD_len] at hi; exact hi) (fun F2 O2 H2 _ => by rw [rngD_len]; exact Nat.le_refl _) (fun i d F2 O2 H2 x H3 hi s2 y => by
    obtain ⟨e, y⟩ := y
    subst e y
    obtain ⟨_, rfl⟩ := rngD_get hi
    exact ⟨F2, Stp.rfl s2.hold, .int _⟩) h
theorem qs_forR {g : DG} (h : PS X st (tFor (iRng1 (tA X.K pa)) (tG X.K g) (sX X.K W p))) : PS X st (sX X.K W (dForR pa g p)) := PS.imp h fun E σ H x => by
  obtain ⟨ρ, F, O, G, er, ho, hp, k⟩ := x
  refine ⟨ρ, F, O, _, er, ho, hp, fun d O1 v F1 H1 q1 s1 r1 => ?_⟩
  obtain ⟨j, rfl, h1, h2, ht⟩ := q1
  cases r1 with
  | cons a b =>
    cases b
    cases a
    exact ⟨j, rfl, h1, h2, rng_turns (er.mono s1.same) s1 k ht⟩
theorem qs_forR2 {g : DG} (h : PS X st (tFor (iRng2 (tA X.K pa)) (tG X.K g) (sX X.K W p))) : PS X st (sX X.K W (dForR2 pa g p)) := PS.imp h fun E σ H x => by
  obtain ⟨ρ, F, O, G, er, ho, hp, k⟩ := x
  refine ⟨ρ, F, O, _, er, ho, hp, fun d O1 v F1 H1 q1 s1 r1 => ?_⟩
  obtain ⟨i, j, rfl, h1, ht⟩ := q1
  cases r1 with
  | cons a b =>
    cases b with
    | cons b c =>
      cases c
      cases a
      cases b
      exact ⟨i, j, rfl, h1, rng_turns (er.mono s1.same) s1 k ht⟩
theorem qs_freeze {i : Nat} (h : PS X st (sX X.K W p)) : PS X st (sX X.K W (dFreeze i p)) := PS.imp h fun E σ H x => by
  obtain ⟨ρ, F, O, G, er, ho, ⟨a, ds, h1, h2, hp⟩, k⟩ := x
  obtain ⟨F1, s1, r1⟩ := ho.freeze h2
  refine ⟨_, F1, _, G, (er.mono s1.same).as h1 (fun v r => ?_), s1.hold, hp, k.st s1⟩
  cases r
  exact r1
end
/-! ### a def's promise by its body -/
def dstart (n : Nat) (ds : List D) : DEnv := ds.map some ++ List.replicate (n - ds.length) none
theorem okP {P : Program} {w : World} {K : PySem.W.Frag} {mg : Str → Option Value} {base : Heap} {x qual : Str} {params : Arguments} {body : List Stmt} {scope : Scope} {dvs : List V} {kws : List (Str × V)} {f : Addr} {fd : FuncData} {N ps : List Str} {k : Nat} {g : List D → Ow → DK → Prop} {pb : DS}
    (F : FunD K x qual params body scope dvs kws f fd) (S : FnScope N ps scope)
    (hb : ∀ (cdv : Value) (A : Around) (outer : List Env) (s : Shared) (H : Hp) (E : XK), Room k (A.deeper (PyProof.Rows.envOfC qual scope s.heap.objs.size f cdv)) → PSs (cxOf CX0 P w K mg base N qual scope f cdv A outer s H E) body (sD K pb))
    (len : ∀ ds O Q, g ds O Q → ds.length = ps.length) (hg : ∀ ds O Q, g ds O Q → pb { nx := fun _ O' => Q .non O', rt := Q } (dstart N.length ds) O) : FnOk P w K mg base CX0 (k + 1) f fd ps (spP K g) := by
  refine F.ok S (fun vs H Q E h => ?_) (fun cdv A outer s H vs Q E hr h => ⟨_, hb cdv A outer s H E hr, ?_⟩)
  · obtain ⟨ds, F, O, P, r, ho, hg, k⟩ := h
    rw [r.length]
    exact len _ _ _ hg
  · obtain ⟨ds, F, O, P, r, ho, h, k⟩ := h
    refine ⟨dstart N.length ds, F, O, _, ?_, ho, hg ds O P h, ⟨fun ρ1 O1 σ1 F1 H1 q1 s1 er1 => k _ O1 _ F1 H1 q1 s1 .non, k, fun _ _ _ _ _ z => z.elim, fun _ _ _ _ _ z => z.elim, fun _ _ _ _ _ _ _ _ z => z.elim⟩⟩
    unfold L2.start dstart
    rw [r.length]
    exact EnvR.start _ r
/-- a def of the top keeps a promise over data -/
abbrev OkP (P : Program) (w : World) (K : PySem.W.Frag) (mg : Str → Option Value) (base : Heap) (k : Nat) (f : Str × Option Str) (ps : List Str) (g : List D → Ow → DK → Prop) : Prop := Okd P w K mg base k f ps (spP K g)
end Tw

namespace Tw
open PySem L2
/-! ### operations of data -/
def fI (C : Int → Int → Prop) (g : Int → Int → Int) : D → D → Ow → DK → Prop := fun d1 d2 O P => ∃ i j, d1 = .int i ∧ d2 = .int j ∧ C i j ∧ P (.int (g i j)) O
def fI0 (g : Int → Int → Int) : D → D → Ow → DK → Prop := fun d1 d2 O P => ∃ i j, d1 = .int i ∧ d2 = .int j ∧ P (.int (g i j)) O
def fB (g : Int → Int → Bool) : D → D → Ow → DK → Prop := fun d1 d2 O P => ∃ i j, d1 = .int i ∧ d2 = .int j ∧ P (.bl (g i j)) O
def fNeg : D → Ow → DK → Prop := fun d O P => ∃ i, d = .int i ∧ P (.int (-i)) O
/-- == of scalars -/
def sc2 : D → D → Bool
  | .int _, .int _ => true
  | .str _, .str _ => true
  | .int _, .str _ => true
  | .str _, .int _ => true
  | .bl _, .bl _ => true
  | .bl _, .str _ => true
  | .str _, .bl _ => true
  | .non, .non => true
  | .non, .int _ => true
  | .non, .str _ => true
  | .non, .bl _ => true
  | .int _, .non => true
  | .str _, .non => true
  | .bl _, .non => true
  | _, _ => false
def seq : D → D → Bool
  | .int i, .int j => decide (i = j)
  | .str i, .str j => decide (i = j)
  | .bl i, .bl j => decide (i = j)
  | .non, .non => true
  | _, _ => false
def fEq : D → D → Ow → DK → Prop := fun d1 d2 O P => sc2 d1 d2 = true ∧ P (.bl (seq d1 d2)) O
def fNe : D → D → Ow → DK → Prop := fun d1 d2 O P => sc2 d1 d2 = true ∧ P (.bl (!seq d1 d2)) O
/-! == of data -/
mutual
def dpy : D → PyData
  | .non => .none
  | .bl b => .bool b
  | .int i => .int i
  | .str z => .str z
  | .tup ds => .tuple (dpys ds)
  | .lst ds => .list (dpys ds)
  | .scr ds => .list (dpys ds)
  | _ => .none
def dpys : List D → List PyData
  | [] => []
  | d :: ds => dpy d :: dpys ds
end
mutual
def isPy : D → Bool
  | .non => true
  | .bl _ => true
  | .int _ => true
  | .str _ => true
  | .tup ds => isPys ds
  | .lst ds => isPys ds
  | .scr ds => isPys ds
  | _ => false
def isPys : List D → Bool
  | [] => true
  | d :: ds => isPy d && isPys ds
end
def shp (d : D) : Prop := isPy d = true ∧ SeqAt.shaped (dpy d) = true
def deq (d e : D) : Bool := PyData.eqv (dpy d) (dpy e)
def fEqD : D → D → Ow → DK → Prop := fun d1 d2 O P => shp d1 ∧ shp d2 ∧ P (.bl (deq d1 d2)) O
def fNeD : D → D → Ow → DK → Prop := fun d1 d2 O P => shp d1 ∧ shp d2 ∧ P (.bl (!deq d1 d2)) O
section
variable {K : PySem.W.Frag} {F : Hp}
mutual
theorem Rep.dp : ∀ {v : V} {d : D}, Rep K F v d → isPy d = true → Dp K F v (dpy d)
  | _, _, .non, _ => by unfold dpy; exact .non
  | _, _, .bl b, _ => by unfold dpy; exact .bl b
  | _, _, .int b, _ => by unfold dpy; exact .int b
  | _, _, .str b, _ => by unfold dpy; exact .str b
  | _, _, .tup h r, e => by
    unfold dpy
    exact .tup (h.sq fun _ _ e => e) (Reps.dp r (by unfold isPy at e; exact e))
  | _, _, .lst h r, e => by
    unfold dpy
    exact .lst (SqL.of h) (Reps.dp r (by unfold isPy at e; exact e))
  | _, _, .scr h r, e => by
    unfold dpy
    exact .lst h (Reps.dp r (by unfold isPy at e; exact e))
  | _, _, .ref a, e => by unfold isPy at e; cases e
  | _, _, .ty a, e => by unfold isPy at e; cases e
  | _, _, .dec .., e => by unfold isPy at e; cases e
  | _, _, .rul .., e => by unfold isPy at e; cases e
  | _, _, .dct .., e => by unfold isPy at e; cases e
theorem Reps.dp : ∀ {vs : List V} {ds : List D}, Reps K F vs ds → isPys ds = true → DpAll K F vs (dpys ds)
  | _, _, .nil, _ => by unfold dpys; exact .nil
  | _, _, .cons r t, e => by
    unfold isPys at e
    obtain ⟨e1, e2⟩ := Bool.and_eq_true_iff.mp e
    unfold dpys
    exact .cons (Rep.dp r e1) (Reps.dp t e2)
end
mutual
theorem Dp.mono {F' : Hp} (x : Same F F') : ∀ {v : V} {d : PyData}, Dp K F v d → Dp K F' v d
  | _, _, .non => .non
  | _, _, .bl b => .bl b
  | _, _, .int b => .int b
  | _, _, .str b => .str b
  | _, _, .lst h r => .lst (Same.seq x h) (DpAll.mono x r)
  | _, _, .tup h r => .tup (Evl.ex_t x h) (DpAll.mono x r)
theorem DpAll.mono {F' : Hp} (x : Same F F') : ∀ {v : List V} {d : List PyData}, DpAll K F v d → DpAll K F' v d
  | _, _, .nil => .nil
  | _, _, .cons h r => .cons (Dp.mono x h) (DpAll.mono x r)
end
end
section
variable {K : PySem.W.Frag}
theorem r_I {C : Int → Int → Prop} {g : Int → Int → Int} : ROp K (rI C fun i j => .int (g i j)) (fI C g) := fun F O H v1 d1 v2 d2 P Q r1 r2 ho h k => by
  obtain ⟨i, j, rfl, rfl, hc, hp⟩ := h
  cases r1
  cases r2
  exact ⟨i, j, rfl, rfl, hc, k.now ho (.int _) hp⟩
theorem r_I0 {g : Int → Int → Int} : ROp K (rI0 fun i j => .int (g i j)) (fI0 g) := fun F O H v1 d1 v2 d2 P Q r1 r2 ho h k => by
  obtain ⟨i, j, rfl, rfl, hp⟩ := h
  cases r1
  cases r2
  exact ⟨i, j, rfl, rfl, k.now ho (.int _) hp⟩
theorem r_B {g : Int → Int → Bool} : ROp K (rI0 fun i j => .bl (g i j)) (fB g) := fun F O H v1 d1 v2 d2 P Q r1 r2 ho h k => by
  obtain ⟨i, j, rfl, rfl, hp⟩ := h
  cases r1
  cases r2
  exact ⟨i, j, rfl, rfl, k.now ho (.bl _) hp⟩
theorem r_neg : RUn K (rU fun i => .int (-i)) fNeg := fun F O H v1 d1 P Q r1 ho h k => by
  obtain ⟨i, rfl, hp⟩ := h
  cases r1
  exact ⟨i, rfl, k.now ho (.int _) hp⟩
theorem sc_of {F : Hp} {v1 v2 : V} {d1 d2 : D} (r1 : Rep K F v1 d1) (r2 : Rep K F v2 d2) (h : sc2 d1 d2 = true) : scal v1 v2 = true ∧ decide (v1 = v2) = seq d1 d2 := by
  cases r1 <;> cases r2 <;> first
    | exact ⟨rfl, rfl⟩
    | exact ⟨rfl, by unfold seq; simp⟩
    | cases h
theorem r_eq : ROp K rEq fEq := fun F O H v1 d1 v2 d2 P Q r1 r2 ho h k => by
  obtain ⟨h1, h2⟩ := sc_of r1 r2 h.1
  exact ⟨h1, by rw [h2]; exact k.now ho (.bl _) h.2⟩
theorem r_ne : ROp K rNe fNe := fun F O H v1 d1 v2 d2 P Q r1 r2 ho h k => by
  obtain ⟨h1, h2⟩ := sc_of r1 r2 h.1
  exact ⟨h1, by rw [h2]; exact k.now ho (.bl _) h.2⟩
theorem r_eqD : ROp K (rEqD K) fEqD := fun F O H v1 d1 v2 d2 P Q r1 r2 ho h k => by
  obtain ⟨⟨a1, a2⟩, ⟨b1, b2⟩, hp⟩ := h
  exact ⟨_, _, Dp.mono ho.sub (r1.dp a1), Dp.mono ho.sub (r2.dp b1), a2, b2, k.now ho (.bl _) hp⟩
theorem r_neD : ROp K (rNeD K) fNeD := fun F O H v1 d1 v2 d2 P Q r1 r2 ho h k => by
  obtain ⟨⟨a1, a2⟩, ⟨b1, b2⟩, hp⟩ := h
  exact ⟨_, _, Dp.mono ho.sub (r1.dp a1), Dp.mono ho.sub (r2.dp b1), a2, b2, k.now ho (.bl _) hp⟩
/-- is None, is not None -/
def isNon : D → Bool
  | .non => true
  | _ => false
def fIsN : D → D → Ow → DK → Prop := fun d1 d2 O P => d2 = .non ∧ P (.bl (isNon d1)) O
def fNotN : D → D → Ow → DK → Prop := fun d1 d2 O P => d2 = .non ∧ P (.bl (!isNon d1)) O
theorem non_of {F : Hp} {v : V} {d : D} (r : Rep K F v d) : decide (v = .non) = isNon d := by
  cases r <;> first | rfl | (unfold isNon; simp)
theorem r_isN : ROp K (fun x y H Q => y = .non ∧ Q (.bl (decide (x = .non))) H) fIsN := fun F O H v1 d1 v2 d2 P Q r1 r2 ho h k => by
  obtain ⟨rfl, hp⟩ := h
  cases r2
  refine ⟨rfl, ?_⟩
  rw [non_of r1]
  exact k.now ho (.bl _) hp
theorem r_notN : ROp K (fun x y H Q => y = .non ∧ Q (.bl (!decide (x = .non))) H) fNotN := fun F O H v1 d1 v2 d2 P Q r1 r2 ho h k => by
  obtain ⟨rfl, hp⟩ := h
  cases r2
  refine ⟨rfl, ?_⟩
  rw [non_of r1]
  exact k.now ho (.bl _) hp
/-- membership among flat data -/
def fltD : D → Bool
  | .non => true
  | .bl _ => true
  | .int _ => true
  | .str _ => true
  | _ => false
def eqF : D → D → Bool
  | .non, .non => true
  | .bl a, .bl b => a == b
  | .bl a, .int b => (if a then 1 else 0) == b
  | .int a, .bl b => a == (if b then 1 else 0)
  | .int a, .int b => decide (b = a)
  | .str a, .str b => decide (b = a)
  | _, _ => false
def inD (x : D) : List D → Bool
  | [] => false
  | y :: ys => eqF y x || inD x ys
def fIn : D → D → Ow → DK → Prop := fun d1 d2 O P => ∃ ds, (d2 = .tup ds ∨ d2 = .lst ds) ∧ fltD d1 = true ∧ ds.all fltD = true ∧ P (.bl (inD d1 ds)) O
def fNi : D → D → Ow → DK → Prop := fun d1 d2 O P => ∃ ds, (d2 = .tup ds ∨ d2 = .lst ds) ∧ fltD d1 = true ∧ ds.all fltD = true ∧ P (.bl (!inD d1 ds)) O
theorem flt_of {F : Hp} {v : V} {d : D} (r : Rep K F v d) (h : fltD d = true) : flatV v = true := by
  cases r <;> first | rfl | cases h
theorem flts_of {F : Hp} : ∀ {vs : List V} {ds : List D}, Reps K F vs ds → ds.all fltD = true → vs.all flatV = true
  | _, _, .nil, _ => rfl
  | _, _, .cons r t, h => by
    rw [List.all_cons] at h ⊢
    obtain ⟨h1, h2⟩ := Bool.and_eq_true_iff.mp h
    rw [flt_of r h1, flts_of t h2]
    rfl
theorem eqF_of {F : Hp} {v1 v2 : V} {d1 d2 : D} (r1 : Rep K F v1 d1) (r2 : Rep K F v2 d2) (h1 : fltD d1 = true) (h2 : fltD d2 = true) : eqV v1 v2 = eqF d1 d2 := by
  cases r1 <;> cases r2 <;> first
    | rfl
    | (show ((_ : Int) == _) = decide _; rw [Bool.eq_iff_iff, beq_iff_eq, decide_eq_true_iff]; exact eq_comm)
    | (show ((_ : Str) == _) = decide _; rw [Bool.eq_iff_iff, beq_iff_eq, decide_eq_true_iff]; exact eq_comm)
    | (cases h1; done)
    | (cases h2; done)
theorem in_of {F : Hp} {x : V} {d : D} (r : Rep K F x d) (h : fltD d = true) : ∀ {vs : List V} {ds : List D}, Reps K F vs ds → ds.all fltD = true → inV x vs = inD d ds
  | _, _, .nil, _ => rfl
  | _, _, .cons r1 t, hs => by
    rw [List.all_cons] at hs
    obtain ⟨h1, h2⟩ := Bool.and_eq_true_iff.mp hs
    show (eqV _ x || inV x _) = (eqF _ d || inD d _)
    rw [eqF_of r1 r h1 h, in_of r h t h2]
theorem seq_of {F : Hp} {v : V} {d : D} {ds : List D} (r : Rep K F v d) (h : d = .tup ds ∨ d = .lst ds) : ∃ p vs, v = .ref p ∧ (SqL K F p vs ∨ SqT K F p vs) ∧ Reps K F vs ds := by
  rcases h with rfl | rfl
  · cases r with
    | tup h r => exact ⟨_, _, rfl, .inr (h.sq fun _ _ e => e), r⟩
  · cases r with
    | lst h r => exact ⟨_, _, rfl, .inl (SqL.of h), r⟩
theorem seq_mono {F H : Hp} (x : Same F H) {p : Addr} {vs : List V} (h : SqL K F p vs ∨ SqT K F p vs) : SqL K H p vs ∨ SqT K H p vs := h.elim (fun h => .inl (Same.seq x h)) fun h => .inr (Evl.ex_t x h)
theorem r_in : ROp K (rIn K false) fIn := fun F O H v1 d1 v2 d2 P Q r1 r2 ho h k => by
  obtain ⟨ds, hd, hf, hs, hp⟩ := h
  obtain ⟨p, vs, rfl, hq, rr⟩ := seq_of r2 hd
  refine ⟨p, vs, rfl, seq_mono ho.sub hq, flt_of r1 hf, flts_of rr hs, ?_⟩
  show Q (.bl (inV v1 vs)) H
  rw [in_of r1 hf rr hs]
  exact k.now ho (.bl _) hp
theorem r_ni : ROp K (rIn K true) fNi := fun F O H v1 d1 v2 d2 P Q r1 r2 ho h k => by
  obtain ⟨ds, hd, hf, hs, hp⟩ := h
  obtain ⟨p, vs, rfl, hq, rr⟩ := seq_of r2 hd
  refine ⟨p, vs, rfl, seq_mono ho.sub hq, flt_of r1 hf, flts_of rr hs, ?_⟩
  show Q (.bl (!inV v1 vs)) H
  rw [in_of r1 hf rr hs]
  exact k.now ho (.bl _) hp
/-- x[i] -/
def fIx : D → D → Ow → DK → Prop := fun d1 d2 O P => ∃ ds i d, (d1 = .tup ds ∨ d1 = .lst ds) ∧ d2 = .int i ∧ L2.atI ds i = some d ∧ P d O
def fIxT : D → D → Ow → DK → Prop := fun d1 d2 O P => ∃ ds i, d1 = .tup ds ∧ d2 = .int i ∧ ∃ d, L2.atI ds i = some d ∧ P d O
def fIxL : D → D → Ow → DK → Prop := fun d1 d2 O P => ∃ ds i, d1 = .lst ds ∧ d2 = .int i ∧ ∃ d, L2.atI ds i = some d ∧ P d O
def fIxR : D → D → Ow → DK → Prop := fun d1 d2 O P => ∃ ds i, d1 = .scr ds ∧ d2 = .int i ∧ ∃ d, L2.atI ds i = some d ∧ P d O
/-- of an owned list -/
def fIxM : D → D → Ow → DK → Prop := fun d1 d2 O P => ∃ a ds i, d1 = .ref a ∧ O a = some (.lst ds) ∧ d2 = .int i ∧ ∃ d, L2.atI ds i = some d ∧ P d O
theorem r_ixT : ROp K (rIxT K) fIxT := fun F O H v1 d1 v2 d2 P Q r1 r2 ho h k => by
  obtain ⟨ds, i, rfl, rfl, d, ha, hp⟩ := h
  cases r2
  cases r1 with
  | tup h r =>
    obtain ⟨v, h1, h2⟩ := r.atI ha
    exact ⟨_, _, i, v, rfl, rfl, (h.sq ho.sub), h1, k.now ho h2 hp⟩
theorem r_ixL : ROp K (rIxL K) fIxL := fun F O H v1 d1 v2 d2 P Q r1 r2 ho h k => by
  obtain ⟨ds, i, rfl, rfl, d, ha, hp⟩ := h
  cases r2
  cases r1 with
  | lst h r =>
    obtain ⟨v, h1, h2⟩ := r.atI ha
    exact ⟨_, _, i, v, rfl, rfl, SqL.of (ho.sub _ _ h), h1, k.now ho h2 hp⟩
theorem r_ixR : ROp K (rIxL K) fIxR := fun F O H v1 d1 v2 d2 P Q r1 r2 ho h k => by
  obtain ⟨ds, i, rfl, rfl, d, ha, hp⟩ := h
  cases r2
  cases r1 with
  | scr h r =>
    obtain ⟨v, h1, h2⟩ := r.atI ha
    exact ⟨_, _, i, v, rfl, rfl, Same.seq ho.sub h, h1, k.now ho h2 hp⟩
theorem r_ixM : ROp K (rIxL K) fIxM := fun F O H v1 d1 v2 d2 P Q r1 r2 ho h k => by
  obtain ⟨a, ds, i, rfl, hO, rfl, d, ha, hp⟩ := h
  cases r2
  cases r1
  obtain ⟨_, o, h1, vs, rfl, rr⟩ := ho.own _ _ hO
  obtain ⟨v, h2, h3⟩ := rr.atI ha
  exact ⟨_, _, i, v, rfl, rfl, SqL.of h1, h2, k.now ho h3 hp⟩
/-- texts -/
def fCatS : D → D → Ow → DK → Prop := fun d1 d2 O P => ∃ i j, d1 = .str i ∧ d2 = .str j ∧ i.length + j.length ≤ sizeLine ∧ P (.str (i ++ j)) O
theorem r_catS : ROp K (fun x y H Q => ∃ i j, x = .str i ∧ y = .str j ∧ i.length + j.length ≤ sizeLine ∧ Q (.str (i ++ j)) H) fCatS := fun F O H v1 d1 v2 d2 P Q r1 r2 ho h k => by
  obtain ⟨i, j, rfl, rfl, hc, hp⟩ := h
  cases r1
  cases r2
  exact ⟨i, j, rfl, rfl, hc, k.now ho (.str _) hp⟩
/-- list + list, tuple + tuple -/
def fCatL : D → D → Ow → DK → Prop := fun d1 d2 O P => ∃ xs ys, d1 = .lst xs ∧ d2 = .lst ys ∧ xs.length + ys.length ≤ 100000 ∧ P (.lst (xs ++ ys)) O
theorem r_catL : ROp K rCat fCatL := fun F O H v1 d1 v2 d2 P Q r1 r2 ho h k => by
  obtain ⟨xs, ys, rfl, rfl, hl, hp⟩ := h
  cases r1 with
  | lst h1 q1 =>
    cases r2 with
    | lst h2 q2 =>
      refine ⟨_, _, _, _, rfl, rfl, ho.sub _ _ h1, ho.sub _ _ h2, by rw [q1.length, q2.length]; exact sz_of hl, fun p np => ?_⟩
      exact k _ O _ _ _ hp (ho.new np) (.lst upd_same ((q1.append q2).mono (ho.new np).same))
def fCatT : D → D → Ow → DK → Prop := fun d1 d2 O P => ∃ xs ys, d1 = .tup xs ∧ d2 = .tup ys ∧ xs.length + ys.length ≤ 100000 ∧ P (.tup (xs ++ ys)) O
theorem Reps.nilL {F : Hp} {ds : List D} (r : Reps K F [] ds) : ds = [] := by cases r; rfl
theorem r_catT : ROp K (rCatA K) fCatT := fun F O H v1 d1 v2 d2 P Q r1 r2 ho h k => by
  obtain ⟨xs, ys, rfl, rfl, hl, hp⟩ := h
  cases r1 with
  | tup h1 q1 =>
    cases r2 with
    | tup h2 q2 =>
      refine ⟨_, _, _, _, rfl, rfl, (h1.sq ho.sub), (h2.sq ho.sub), by rw [q1.length, q2.length]; exact sz_of hl, fun e => ?_, fun _ e => ?_, fun _ _ p np => ?_⟩
      · subst e
        have e := q1.nilL
        subst e
        exact k.now ho (.tup h2 q2) hp
      · subst e
        have e := q2.nilL
        subst e
        rw [List.append_nil] at hp
        exact k.now ho (.tup h1 q1) hp
      · exact k _ O _ _ _ hp (ho.new np) (.tup (.inl upd_same) ((q1.append q2).mono (ho.new np).same))
/-- list * int -/
def fRepL : D → D → Ow → DK → Prop := fun d1 d2 O P => ∃ xs j, d1 = .lst xs ∧ d2 = .int j ∧ (-(2 ^ 63) ≤ j ∧ j < 2 ^ 63 ∧ xs.length * j.toNat ≤ sizeLine) ∧ P (.lst (List.replicate j.toNat xs).flatten) O
theorem Reps.rep {F : Hp} {vs : List V} {ds : List D} (r : Reps K F vs ds) : ∀ n : Nat, Reps K F (List.replicate n vs).flatten (List.replicate n ds).flatten
  | 0 => .nil
  | n + 1 => by
    rw [List.replicate_succ, List.replicate_succ, List.flatten_cons, List.flatten_cons]
    exact r.append (Reps.rep r n)
theorem r_repL : ROp K rRep fRepL := fun F O H v1 d1 v2 d2 P Q r1 r2 ho h k => by
  obtain ⟨xs, j, rfl, rfl, ⟨h1, h2, h3⟩, hp⟩ := h
  cases r2
  cases r1 with
  | lst q1 q2 =>
    refine ⟨_, j, _, rfl, rfl, ho.sub _ _ q1, h1, h2, by rw [q2.length]; exact h3, fun p np => ?_⟩
    exact k _ O _ _ _ hp (ho.new np) (.lst upd_same ((q2.rep _).mono (ho.new np).same))
/-! ### built-in calls -/
def fAbs : List D → Ow → DK → Prop := fun ds O P => ∃ i, ds = [.int i] ∧ P (.int (i.natAbs : Int)) O
def fMax : List D → Ow → DK → Prop := fun ds O P => ∃ i j, ds = [.int i, .int j] ∧ P (.int (max i j)) O
def fMin : List D → Ow → DK → Prop := fun ds O P => ∃ i j, ds = [.int i, .int j] ∧ P (.int (min i j)) O
def numD : D → Option Int
  | .int i => some i
  | .bl b => some (if b = true then 1 else 0)
  | _ => none
def fInt : List D → Ow → DK → Prop := fun ds O P => ∃ d i, ds = [d] ∧ numD d = some i ∧ P (.int i) O
def fStr : List D → Ow → DK → Prop := fun ds O P => ∃ i, ds = [.int i] ∧ i.natAbs.log2 < 1920 ∧ P (.str (toString i)) O
def fLenS : List D → Ow → DK → Prop := fun ds O P => ∃ z, ds = [.str z] ∧ z.length ≤ sizeLine ∧ P (.int z.length) O
def fLenT : List D → Ow → DK → Prop := fun ds O P => ∃ xs, ds = [.tup xs] ∧ P (.int xs.length) O
def fLenL : List D → Ow → DK → Prop := fun ds O P => ∃ xs, ds = [.lst xs] ∧ P (.int xs.length) O
def fLenR : List D → Ow → DK → Prop := fun ds O P => ∃ xs, ds = [.scr xs] ∧ P (.int xs.length) O
def fListT : List D → Ow → DK → Prop := fun ds O P => ∃ xs, ds = [.tup xs] ∧ P (.lst xs) O
def fListL : List D → Ow → DK → Prop := fun ds O P => ∃ xs, ds = [.lst xs] ∧ P (.lst xs) O
def fTupL : List D → Ow → DK → Prop := fun ds O P => ∃ xs, ds = [.lst xs] ∧ P (.tup xs) O
def fDivmod : List D → Ow → DK → Prop := fun ds O P => ∃ i j, ds = [.int i, .int j] ∧ CDivP i j ∧ P (.tup [.int (i / j), .int (i % j)]) O
theorem Reps.one {F : Hp} {vs : List V} {d : D} (r : Reps K F vs [d]) : ∃ v, vs = [v] ∧ Rep K F v d := by
  cases r with
  | cons a b =>
    cases b
    exact ⟨_, rfl, a⟩
theorem Reps.two {F : Hp} {vs : List V} {d e : D} (r : Reps K F vs [d, e]) : ∃ v u, vs = [v, u] ∧ Rep K F v d ∧ Rep K F u e := by
  cases r with
  | cons a b =>
    obtain ⟨u, rfl, r2⟩ := b.one
    exact ⟨_, _, rfl, a, r2⟩
theorem Reps.three {F : Hp} {vs : List V} {d e f : D} (r : Reps K F vs [d, e, f]) : ∃ v u w, vs = [v, u, w] ∧ Rep K F v d ∧ Rep K F u e ∧ Rep K F w f := by
  cases r with
  | cons a b =>
    obtain ⟨u, w, rfl, r2⟩ := b.two
    exact ⟨_, _, _, rfl, a, r2⟩
theorem c_abs : RCl K rAbs fAbs := fun F O H vs ds P Q r ho h k => by
  obtain ⟨i, rfl, hp⟩ := h
  obtain ⟨v, rfl, q⟩ := r.one
  cases q
  exact ⟨i, rfl, k.now ho (.int _) hp⟩
theorem c_max : RCl K rMaxI fMax := fun F O H vs ds P Q r ho h k => by
  obtain ⟨i, j, rfl, hp⟩ := h
  obtain ⟨v, u, rfl, q1, q2⟩ := r.two
  cases q1
  cases q2
  exact ⟨i, j, rfl, k.now ho (.int _) hp⟩
theorem c_min : RCl K rMinI fMin := fun F O H vs ds P Q r ho h k => by
  obtain ⟨i, j, rfl, hp⟩ := h
  obtain ⟨v, u, rfl, q1, q2⟩ := r.two
  cases q1
  cases q2
  exact ⟨i, j, rfl, k.now ho (.int _) hp⟩
theorem c_int : RCl K rInt1 fInt := fun F O H vs ds P Q r ho h k => by
  obtain ⟨d, i, rfl, hn, hp⟩ := h
  obtain ⟨v, rfl, q⟩ := r.one
  cases q with
  | int j =>
    cases hn
    exact ⟨_, rfl, rfl, k.now ho (.int _) hp⟩
  | bl b =>
    cases hn
    exact ⟨_, rfl, rfl, k.now ho (.int _) hp⟩
  | _ => cases hn
theorem c_str : RCl K (fun xs H Q => ∃ i, xs = [.int i] ∧ i.natAbs.log2 < 1920 ∧ Q (.str (toString i)) H) fStr := fun F O H vs ds P Q r ho h k => by
  obtain ⟨i, rfl, hl, hp⟩ := h
  obtain ⟨v, rfl, q⟩ := r.one
  cases q
  exact ⟨i, rfl, hl, k.now ho (.str _) hp⟩
theorem c_lenS : RCl K (fun xs H Q => ∃ z, xs = [.str z] ∧ z.length ≤ sizeLine ∧ Q (.int z.length) H) fLenS := fun F O H vs ds P Q r ho h k => by
  obtain ⟨i, rfl, hl, hp⟩ := h
  obtain ⟨v, rfl, q⟩ := r.one
  cases q
  exact ⟨i, rfl, hl, k.now ho (.int _) hp⟩
theorem c_lenT : RCl K (fun xs H Q => ∃ p ys, xs = [.ref p] ∧ (SqL K H p ys ∨ SqT K H p ys) ∧ Q (.int ys.length) H) fLenT := fun F O H vs ds P Q r ho h k => by
  obtain ⟨xs, rfl, hp⟩ := h
  obtain ⟨v, rfl, q⟩ := r.one
  cases q with
  | tup q1 q2 =>
    rw [← q2.length] at hp
    exact ⟨_, _, rfl, .inr ((q1.sq ho.sub)), k.now ho (.int _) hp⟩
theorem c_lenL : RCl K (fun xs H Q => ∃ p ys, xs = [.ref p] ∧ (SqL K H p ys ∨ SqT K H p ys) ∧ Q (.int ys.length) H) fLenL := fun F O H vs ds P Q r ho h k => by
  obtain ⟨xs, rfl, hp⟩ := h
  obtain ⟨v, rfl, q⟩ := r.one
  cases q with
  | lst q1 q2 =>
    rw [← q2.length] at hp
    exact ⟨_, _, rfl, .inl (SqL.of (ho.sub _ _ q1)), k.now ho (.int _) hp⟩
theorem c_lenR : RCl K (fun xs H Q => ∃ p ys, xs = [.ref p] ∧ (SqL K H p ys ∨ SqT K H p ys) ∧ Q (.int ys.length) H) fLenR := fun F O H vs ds P Q r ho h k => by
  obtain ⟨xs, rfl, hp⟩ := h
  obtain ⟨v, rfl, q⟩ := r.one
  cases q with
  | scr q1 q2 =>
    rw [← q2.length] at hp
    exact ⟨_, _, rfl, .inl (Same.seq ho.sub q1), k.now ho (.int _) hp⟩
theorem c_listT : RCl K (fun xs H Q => ∃ p ys, xs = [.ref p] ∧ (SqL K H p ys ∨ SqT K H p ys) ∧ ∀ l, H l = none → Q (.ref l) (upd H l (.lst ys))) fListT := fun F O H vs ds P Q r ho h k => by
  obtain ⟨xs, rfl, hp⟩ := h
  obtain ⟨v, rfl, q⟩ := r.one
  cases q with
  | tup q1 q2 =>
    refine ⟨_, _, rfl, .inr ((q1.sq ho.sub)), fun p np => ?_⟩
    exact k _ O _ _ _ hp (ho.new np) (.lst upd_same (q2.mono (ho.new np).same))
theorem c_listL : RCl K (fun xs H Q => ∃ p ys, xs = [.ref p] ∧ (SqL K H p ys ∨ SqT K H p ys) ∧ ∀ l, H l = none → Q (.ref l) (upd H l (.lst ys))) fListL := fun F O H vs ds P Q r ho h k => by
  obtain ⟨xs, rfl, hp⟩ := h
  obtain ⟨v, rfl, q⟩ := r.one
  cases q with
  | lst q1 q2 =>
    refine ⟨_, _, rfl, .inl (SqL.of (ho.sub _ _ q1)), fun p np => ?_⟩
    exact k _ O _ _ _ hp (ho.new np) (.lst upd_same (q2.mono (ho.new np).same))
theorem c_tupL : RCl K (fun xs H Q => ∃ p ys, xs = [.ref p] ∧ ((SqL K H p ys ∧ ∀ l, H l = none → Q (.ref l) (upd H l (.tup ys))) ∨ (SqT K H p ys ∧ Q (.ref p) H))) fTupL := fun F O H vs ds P Q r ho h k => by
  obtain ⟨xs, rfl, hp⟩ := h
  obtain ⟨v, rfl, q⟩ := r.one
  cases q with
  | lst q1 q2 =>
    refine ⟨_, _, rfl, .inl ⟨SqL.of (ho.sub _ _ q1), fun p np => ?_⟩⟩
    exact k _ O _ _ _ hp (ho.new np) (.tup (.inl upd_same) (q2.mono (ho.new np).same))
theorem c_divmod : RCl K (fun xs H Q => ∃ i j, xs = [.int i, .int j] ∧ CDivP i j ∧ ∀ p, H p = none → Q (.ref p) (upd H p (.tup [.int (i / j), .int (i % j)]))) fDivmod := fun F O H vs ds P Q r ho h k => by
  obtain ⟨i, j, rfl, hc, hp⟩ := h
  obtain ⟨v, u, rfl, q1, q2⟩ := r.two
  cases q1
  cases q2
  refine ⟨i, j, rfl, hc, fun p np => ?_⟩
  have s := ho.new (o := .tup [.int (i / j), .int (i % j)]) np
  exact k _ O _ _ _ hp s (.tup (.inl upd_same) (.cons (.int _) (.cons (.int _) .nil)))
/-- isinstance of flat data -/
def isIntD : D → Bool
  | .int _ => true
  | _ => false
def isNumD : D → Bool
  | .int _ => true
  | .bl _ => true
  | _ => false
def isBlD : D → Bool
  | .bl _ => true
  | _ => false
def isStrD : D → Bool
  | .str _ => true
  | _ => false
def fIs (n : String) (f : D → Bool) : List D → Ow → DK → Prop := fun ds O P => ∃ d, ds = [d, .ty n] ∧ fltD d = true ∧ P (.bl (f d)) O
theorem c_isF {n : String} {f : V → Bool} {g : D → Bool} (hfg : ∀ (F : Hp) (v : V) (d : D), Rep K F v d → fltD d = true → f v = g d) : RCl K (rIsF n f) (fIs n g) := fun F O H vs ds P Q r ho h k => by
  obtain ⟨d, rfl, hf, hp⟩ := h
  obtain ⟨v, u, rfl, q1, q2⟩ := r.two
  cases q2
  refine ⟨v, rfl, ?_, ?_⟩
  · cases q1 <;> first | rfl | cases hf
  · rw [hfg F v d q1 hf]
    exact k.now ho (.bl _) hp
theorem c_isInt : RCl K (rIsF "int" isNum) (fIs "int" isNumD) := c_isF fun F v d r h => by cases r <;> first | rfl | cases h
theorem c_isBool : RCl K (rIsF "bool" isBl) (fIs "bool" isBlD) := c_isF fun F v d r h => by cases r <;> first | rfl | cases h
theorem c_isStr : RCl K (rIsF "str" isStr) (fIs "str" isStrD) := c_isF fun F v d r h => by cases r <;> first | rfl | cases h
/-- isinstance(x, Decimal) of a Decimal or an int -/
def fIsDec (C : Addr) : List D → Ow → DK → Prop := fun ds O P => ∃ d, ds = [d, .ref C] ∧ ((∃ a, d = .dec a) ∧ P (.bl true) O ∨ (∃ i, d = .int i) ∧ P (.bl false) O)
theorem c_isDec : RCl K (rIsOwn (He.ga K "Decimal")) (fIsDec (He.ga K "Decimal")) := fun F O H vs ds P Q r ho h k => by
  obtain ⟨d, rfl, h⟩ := h
  obtain ⟨v, u, rfl, q1, q2⟩ := r.two
  cases q2
  rcases h with ⟨⟨a, rfl⟩, hp⟩ | ⟨⟨i, rfl⟩, hp⟩
  · cases q1 with
    | dec q1 q2 => exact .inl ⟨_, _, _, rfl, ho.sub _ _ q1, k.now ho (.bl _) hp⟩
  · cases q1
    exact .inr ⟨i, rfl, k.now ho (.bl _) hp⟩
def fIsTup : List D → Ow → DK → Prop := fun ds O P => ∃ xs, ds = [.tup xs, .ty "tuple"] ∧ P (.bl true) O
def rIsTupX (K : PySem.W.Frag) : List V → Hp → VK → Prop := fun xs H Q => ∃ x, xs = [x, .ty "tuple"] ∧ TyX K H x (.type "tuple") ∧ Q (.bl true) H
theorem isi_tupleX {X : Cx} : CallR X (.builtin "isinstance") (rIsTupX X.K) := CallR.imp call_isi fun xs H Q h => by
  obtain ⟨x, rfl, ht, q⟩ := h
  exact ⟨_, _, _, _, _, rfl, .ty _, ht, kit_ty kb13, q⟩
theorem TupAt.ty {F H : Hp} {p : Addr} {vs : List V} (h : TupAt K F p vs) (x : Same F H) : TyX K H (.ref p) (.type "tuple") := by
  rcases h with h | ⟨o, its, n, h1, h2, _⟩
  · exact .base (.tup (x _ _ h))
  · exact .kTuple h1 h2
theorem c_isTup : RCl K (rIsTupX K) fIsTup := fun F O H vs ds P Q r ho h k => by
  obtain ⟨xs, rfl, hp⟩ := h
  obtain ⟨v, u, rfl, q1, q2⟩ := r.two
  cases q2
  cases q1 with
  | tup q1 q2 => exact ⟨_, rfl, q1.ty ho.sub, k.now ho (.bl _) hp⟩
end
/-! ### attributes -/
def dFld (f : D → Option D) (p : DE) : DE := fun ρ O P => p ρ O fun d O1 => ∃ d', f d = some d' ∧ P d' O1
def gSign : D → Option D
  | .dec a => some (.int a.s)
  | _ => none
def gCoef : D → Option D
  | .dec a => some (.int a.c)
  | _ => none
def gExp : D → Option D
  | .dec a => some a.e.d
  | _ => none
def gPrec : D → Option D
  | .rul r => some (.int r.prec)
  | _ => none
def gRnd : D → Option D
  | .rul r => some (.str r.rnd)
  | _ => none
def gEmin : D → Option D
  | .rul r => some (.int r.emin)
  | _ => none
def gEmax : D → Option D
  | .rul r => some (.int r.emax)
  | _ => none
def gClamp : D → Option D
  | .rul r => some (.int r.clamp)
  | _ => none
theorem rep_ex {K : PySem.W.Frag} {F : Hp} : ∀ e : Ex4, Rep K F e.v e.d
  | .fin n => .int n
  | .inf => .str _
  | .qn => .str _
  | .sn => .str _
def RFld (K : PySem.W.Frag) (C : Addr) (f : Str) (g : D → Option D) : Prop := ∀ (F : Hp) (v : V) (d d' : D), Rep K F v d → g d = some d' → ∃ p dx fs v', v = .ref p ∧ F p = some (.ins C dx fs) ∧ fs.lookup f = some v' ∧ Rep K F v' d'
section
variable {X : Cx} {e : Expr} {p : DE} {f : Str} {pos : Pos} {C : Addr} {g : D → Option D}
theorem q_fld (hg : RFld X.K C f g) (cl : Cls X.K C) (na : NoAttr X.K C f) (he : PE X e (tD X.K p)) (hb : attributeBase e f X.env (eval e X.env) = eval e X.env := by rfl) : PE X (.Attribute e f pos) (tD X.K (dFld g p)) := PE.imp (pe_fld he hb) fun σ H Q x => by
  obtain ⟨ρ, F, O, P, er, ho, hp, k⟩ := x
  refine ⟨ρ, F, O, _, er, ho, hp, fun d O1 v F1 H1 q1 s1 r1 => ?_⟩
  obtain ⟨d', h1, hp⟩ := q1
  obtain ⟨p, dx, fs, v', rfl, h2, h3, h4⟩ := hg F1 v d d' r1 h1
  exact ⟨p, C, dx, fs, v', rfl, s1.hold.sub _ _ h2, cl, na, h3, k _ O1 _ F1 H1 hp s1 h4⟩
end
section
variable {K : PySem.W.Frag}
theorem f_sign : RFld K (He.ga K "Decimal") "sign" gSign := fun F v d d' r h => by
  cases r <;> first | cases h | skip
  rename_i q o
  exact ⟨_, _, _, _, rfl, q, lk_sign .., .int _⟩
theorem f_coef : RFld K (He.ga K "Decimal") "coefficient" gCoef := fun F v d d' r h => by
  cases r <;> first | cases h | skip
  rename_i q o
  exact ⟨_, _, _, _, rfl, q, lk_coef .., .int _⟩
theorem f_exp : RFld K (He.ga K "Decimal") "exponent" gExp := fun F v d d' r h => by
  cases r <;> first | cases h | skip
  rename_i q o
  exact ⟨_, _, _, _, rfl, q, lk_exp .., rep_ex _⟩
theorem f_prec : RFld K (He.ga K "Rules") "prec" gPrec := fun F v d d' r h => by
  cases r <;> first | cases h | skip
  rename_i q
  exact ⟨_, _, _, _, rfl, q, lk_prec .., .int _⟩
theorem f_rnd : RFld K (He.ga K "Rules") "rounding" gRnd := fun F v d d' r h => by
  cases r <;> first | cases h | skip
  rename_i q
  exact ⟨_, _, _, _, rfl, q, lk_rnd .., .str _⟩
theorem f_emin : RFld K (He.ga K "Rules") "emin" gEmin := fun F v d d' r h => by
  cases r <;> first | cases h | skip
  rename_i q
  exact ⟨_, _, _, _, rfl, q, lk_emin .., .int _⟩
theorem f_emax : RFld K (He.ga K "Rules") "emax" gEmax := fun F v d d' r h => by
  cases r <;> first | cases h | skip
  rename_i q
  exact ⟨_, _, _, _, rfl, q, lk_emax .., .int _⟩
theorem f_clamp : RFld K (He.ga K "Rules") "clamp" gClamp := fun F v d d' r h => by
  cases r <;> first | cases h | skip
  rename_i q
  exact ⟨_, _, _, _, rfl, q, lk_clamp .., .int _⟩
end
/-! ### methods of Decimals, of Rules -/
def isDecD : D → Prop := fun d => ∃ a, d = .dec a
def isRulD : D → Prop := fun d => ∃ r, d = .rul r
def RRcv (K : PySem.W.Frag) (C : Addr) (m : Str) (is : D → Prop) : Prop := ∀ (F : Hp) (v : V) (d : D), Rep K F v d → is d → ∃ p dx fs, v = .ref p ∧ F p = some (.ins C dx fs) ∧ fs.lookup m = none
def dMeth (is : D → Prop) (g : List D → Ow → DK → Prop) (p : DE) (q : DA) : DE := fun ρ O P => p ρ O fun d O1 => is d ∧ q ρ O1 fun ds O2 => g (d :: ds) O2 P
section
variable {X : Cx} {k : Nat} {f C : Addr} {fd : FuncData} {ps : List Str} {g : List D → Ow → DK → Prop} {m : Str} {pos apos : Pos} {o e : Expr} {es : List Expr} {p : DE} {q : DA} {is : D → Prop}
theorem meth_imp {K : PySem.W.Frag} {E : XK} (hi : RRcv K C m is) : ∀ σ H Q, tD K (dMeth is g p q) σ H Q → tMeth C m (spP K g) [] E (tD K p) (tA K q) σ H Q := fun σ H Q x => by
  obtain ⟨ρ, F, O, P, er, ho, hp, k⟩ := x
  refine ⟨ρ, F, O, _, er, ho, hp, fun d O1 v F1 H1 q1 s1 r1 => ?_⟩
  obtain ⟨h1, q1⟩ := q1
  obtain ⟨a, dx, fs, rfl, h2, h3⟩ := hi F1 v d r1 h1
  refine ⟨a, dx, fs, rfl, s1.hold.sub _ _ h2, h3, ρ, F1, O1, _, er.mono s1.same, s1.hold, q1, fun ds O2 vs F2 H2 q2 s2 r2 => ?_⟩
  exact ⟨d :: ds, F2, O2, P, by rw [List.append_nil]; exact .cons (r1.mono s2.same) r2, s2.hold, q2, k.st (s1.tr s2)⟩
theorem meth0_imp {K : PySem.W.Frag} {E : XK} (hi : RRcv K C m is) : ∀ σ H Q, tD K (dMeth is g p dNil) σ H Q → tMeth C m (spP K g) [] E (tD K p) tNil σ H Q := fun σ H Q x => by
  obtain ⟨ρ, F, O, P, er, ho, hp, k⟩ := x
  refine ⟨ρ, F, O, _, er, ho, hp, fun d O1 v F1 H1 q1 s1 r1 => ?_⟩
  obtain ⟨h1, q1⟩ := q1
  obtain ⟨a, dx, fs, rfl, h2, h3⟩ := hi F1 v d r1 h1
  exact ⟨a, dx, fs, rfl, s1.hold.sub _ _ h2, h3, [d], F1, O1, P, .cons r1 .nil, s1.hold, q1, k.st s1⟩
theorem q_meth {pl : Sem Bool} (hi : RRcv X.K C m is) (he : PE X o (tD X.K p)) (c : Cls X.K C) (hm : Meth X.K C m f) (F : FnOk X.prog X.w X.K X.mg X.base CX0 k f fd ps (spP X.K g)) (hr : Room k X.A) (hb : Binds X.K fd ps []) (ha : PA X (e :: es) (tA X.K q))
    (hst : starEach (e :: es) X.env = (false, eval e X.env) :: starEach es X.env := by rfl) (hpl : (backTo pos (starEach es X.env)).any (·.1) = false := by rfl)
    (ht : eval (.Call (.Attribute o m apos) (e :: es) [] pos) X.env = (do
      let ov ← eval o X.env
      standAt apos.atName
      let (f, first) ← holding [ov] (getMethod ov m pl)
      callWith pos f first (backTo pos (starEach (e :: es) X.env)) (backToKw pos (keywordEach [] X.env))) := by rfl) :
    PE X (.Call (.Attribute o m apos) (e :: es) [] pos) (tD X.K (dMeth is g p q)) := PE.imp (pe_meth he c hm F hr hb .nil (E := E0) (fun _ _ _ _ _ _ _ z => False.elim z) ha hst hpl ht) (meth_imp hi)
theorem q_meth0 {pl : Sem Bool} (hi : RRcv X.K C m is) (he : PE X o (tD X.K p)) (c : Cls X.K C) (hm : Meth X.K C m f) (F : FnOk X.prog X.w X.K X.mg X.base CX0 k f fd ps (spP X.K g)) (hr : Room k X.A) (hb : Binds X.K fd ps [])
    (ht : eval (.Call (.Attribute o m apos) [] [] pos) X.env = (do
      let ov ← eval o X.env
      standAt apos.atName
      let (f, first) ← holding [ov] (getMethod ov m pl)
      callWith pos f first (backTo pos (starEach [] X.env)) (backToKw pos (keywordEach [] X.env))) := by rfl) :
    PE X (.Call (.Attribute o m apos) [] [] pos) (tD X.K (dMeth is g p dNil)) := PE.imp (pe_meth0 he c hm F hr hb .nil (E := E0) (fun _ _ _ _ _ _ _ z => False.elim z) ht) (meth0_imp hi)
end
theorem rc_dec {K : PySem.W.Frag} {m : Str} (h : ∀ s c e, (decF s c e).lookup m = none) : RRcv K (He.ga K "Decimal") m isDecD := fun F v d r i => by
  obtain ⟨a, rfl⟩ := i
  cases r with
  | dec q o => exact ⟨_, _, _, rfl, q, h ..⟩
theorem rc_rul {K : PySem.W.Frag} {m : Str} (h : ∀ r, (ruF r).lookup m = none) : RRcv K (He.ga K "Rules") m isRulD := fun F v d r i => by
  obtain ⟨a, rfl⟩ := i
  cases r with
  | rul q => exact ⟨_, _, _, rfl, q, h ..⟩
/-! ### Decimals, Rules made -/
def fDec : List D → Ow → DK → Prop := fun ds O P => ∃ s c d e, ds = [.int s, .int c, d] ∧ exOf d = some e ∧ Dc.Ok ⟨s, c, e⟩ ∧ P (.dec ⟨s, c, e⟩) O
def fRul : List D → Ow → DK → Prop := fun ds O P => ∃ a z b c d, ds = [.int a, .str z, .int b, .int c, .int d] ∧ P (.rul ⟨a, z, b, c, d⟩) O
theorem exOf_of {d : D} {e : Ex4} (h : exOf d = some e) : d = e.d := by
  cases d <;> first | (cases h; rfl) | cases h | skip
  rename_i z
  unfold exOf at h
  dsimp only at h
  split at h
  · cases h
    rename_i q
    rw [q]
    rfl
  · split at h
    · cases h
      rename_i q
      rw [q]
      rfl
    · split at h
      · cases h
        rename_i q
        rw [q]
        rfl
      · cases h
theorem rep_exV {K : PySem.W.Frag} {F : Hp} {v : V} {e : Ex4} (r : Rep K F v e.d) : v = e.v := by
  cases e <;> (cases r; rfl)
theorem Dc.Ok.good {a : Dc} (h : a.Ok) : GoodD a.s a.c a.e.v := ⟨h.sg, h.co, by cases a with | mk s c e => cases e <;> first | rfl | decide +kernel, fun q => h.inf (by
  cases a with
  | mk s c e =>
    cases e with
    | fin n => cases q
    | inf => rfl
    | qn => exact absurd (show V.str "n" = V.str "F" from q) (by decide +kernel)
    | sn => exact absurd (show V.str "N" = V.str "F" from q) (by decide +kernel))⟩
section
variable {X : Cx} {x : Str} {e : Expr} {es : List Expr} {q : DA} {p pos : Pos} {f : Addr} {fd : FuncData} {ps : List Str} {k : Nat}
theorem q_mkDec (M : Mk X.K (He.ga X.K "Decimal") f) (F : FnOk X.prog X.w X.K X.mg X.base CX0 k f fd ps (spIn (He.ga X.K "Decimal") decOk)) (hr : Room (k + 1) X.A) (hg : Gl X x) (hm : X.mg x = some (.ref (He.ga X.K "Decimal"))) (hb : Binds X.K fd ps [])
    (ha : PA X (e :: es) (tA X.K q)) (hdb : (x == ("__debug__" : Str)) = false := by decide) (he : starEach (e :: es) X.env = (false, eval e X.env) :: starEach es X.env := by rfl) (hpl : (backTo pos (starEach es X.env)).any (·.1) = false := by rfl) :
    PE X (.Call (.Name x p) (e :: es) [] pos) (tD X.K (dCl fDec q)) := PE.imp (n_make M F hr hg hm hb ha hdb he hpl) fun σ H Q z => by
  obtain ⟨ρ, F, O, P, er, ho, hp, k⟩ := z
  refine ⟨ρ, F, O, _, er, ho, hp, fun ds O1 vs F1 H1 q1 s1 r1 => ?_⟩
  obtain ⟨s, c, d, e, rfl, he, ok, hp⟩ := q1
  obtain ⟨v1, v2, v3, rfl, q1, q2, q3⟩ := r1.three
  cases q1
  cases q2
  rw [exOf_of he] at q3
  have e3 := rep_exV q3
  subst e3
  refine ⟨_, ⟨s, c, _, rfl, ok.good, rfl⟩, fun p dx H' sm np hp' => ?_⟩
  obtain ⟨f1, o1⟩ := s1.hold.free np
  have s2 : Stp X.K F1 O1 H1 (upd F1 p (.ins (He.ga X.K "Decimal") dx (decF s c e.v))) O1 H' := by
    have sF : Same F1 (upd F1 p (.ins (He.ga X.K "Decimal") dx (decF s c e.v))) := fun b u z => by
      rw [upd_ne (ne_of_none z f1)]
      exact z
    refine ⟨sF, ⟨fun b u z => ?_, fun a m z => ?_⟩, fun b u h1 h2 h3 => ?_⟩
    · by_cases hb : b = p
      · rw [hb, upd_same] at z
        rw [hb, hp']
        exact z
      · rw [upd_ne hb] at z
        exact sm _ _ (s1.hold.sub _ _ z)
    · obtain ⟨g1, u, g2, g3⟩ := s1.hold.own a m z
      have hb : a ≠ p := fun y => by rw [y, o1] at z; cases z
      exact ⟨by rw [upd_ne hb]; exact g1, u, sm _ _ g2, g3.mono sF⟩
    · have hb : b ≠ p := fun y => by rw [y, np] at h3; cases h3
      exact ⟨sm _ _ h3, by rw [upd_ne hb]; exact h1, h2⟩
  exact k _ O1 _ _ _ hp (s1.tr s2) (.dec (a := ⟨s, c, e⟩) upd_same ok)
end
/-! ### list comprehensions: the target is the name in slot j -/
/-- the turns; acc: what is made so far -/
def dComp (ds : List D) (j : Nat) (t : DT) (p : DE) : DE := fun ρ O P => ∃ I : Nat → List D → Ow → Prop, I 0 [] O ∧
  (∀ i d acc O, ds[i]? = some d → acc.length ≤ i → I i acc O → t (ρ.set j (some d)) O fun b O1 => if b = true then p (ρ.set j (some d)) O1 fun y O2 => I (i + 1) (acc ++ [y]) O2 else I (i + 1) acc O1) ∧ ∀ acc O, acc.length ≤ ds.length → I ds.length acc O → P (.lst acc) O
def dYes : DT := fun _ O P => P true O
def dLcL (q : DE) (j : Nat) (t : DT) (p : DE) : DE := fun ρ O P => q ρ O fun d O1 => ∃ ds, (d = .lst ds ∨ d = .scr ds) ∧ ds.length ≤ 90000 ∧ dComp ds j t p ρ O1 P
def dLcT (q : DE) (j : Nat) (t : DT) (p : DE) : DE := fun ρ O P => q ρ O fun d O1 => ∃ ds, d = .tup ds ∧ ds.length ≤ 90000 ∧ dComp ds j t p ρ O1 P
def dLcR (q : DA) (j : Nat) (t : DT) (p : DE) : DE := fun ρ O P => q ρ O fun ds O1 => ∃ n : Int, ds = [.int n] ∧ -90000 ≤ n ∧ n ≤ 90000 ∧ dComp (rngD 0 n.toNat) j t p ρ O1 P
theorem qts_nil {X : Cx} : PTs X [] (tT X.K dYes) := ⟨fun pins s σ H Q I h => pts_nil.run pins s σ H Q I (by
  obtain ⟨ρ, F, O, P, er, ho, hp, k⟩ := h
  exact k _ O F H hp (Stp.rfl ho))⟩
theorem qts_one {X : Cx} {c : Expr} {t : DT} (h : PT X c (tT X.K t)) : PTs X [c] (tT X.K t) := pts_one h
section
variable {K : PySem.W.Frag}
/-- what is kept while the list at Dl is being made -/
def LcInv (K : PySem.W.Frag) (F : Hp) (O : Ow) (H : Hp) (Dl : Addr) (I : List D → Ow → Prop) (n : Nat) (H2 : Hp) : Prop := ∃ F2 O2 acc vs, Stp K F O H F2 O2 H2 ∧ F2 Dl = none ∧ O2 Dl = none ∧ H2 Dl = some (.lst vs) ∧ Reps K F2 vs acc ∧ acc.length ≤ n ∧ I acc O2
theorem lc_start {F : Hp} {O : Ow} {H : Hp} {Dl : Addr} {I : List D → Ow → Prop} (ho : Hold K F O H) (hD : H Dl = none) (h : I [] O) : LcInv K F O H Dl I 0 (upd H Dl (.lst [])) := by
  obtain ⟨f1, o1⟩ := ho.free hD
  refine ⟨F, O, [], [], ⟨Same.refl F, ⟨fun b u e => ?_, fun a m e => ?_⟩, fun b u g1 g2 g3 => ?_⟩, f1, o1, upd_same, .nil, Nat.le_refl _, h⟩
  · rw [upd_ne (ne_of_none e f1)]
    exact ho.sub _ _ e
  · obtain ⟨g1, u, g2, g3⟩ := ho.own a m e
    have hb : a ≠ Dl := fun z => by rw [z, o1] at e; cases e
    exact ⟨g1, u, by rw [upd_ne hb]; exact g2, g3⟩
  · have hb : b ≠ Dl := fun z => by rw [z, hD] at g3; cases g3
    exact ⟨by rw [upd_ne hb]; exact g3, g1, g2⟩
theorem lc_fin {F : Hp} {O : Ow} {H : Hp} {Dl : Addr} {I : List D → Ow → Prop} {n : Nat} {H2 : Hp} (hD : H Dl = none) (x : LcInv K F O H Dl I n H2) : ∃ F2 O2 acc, Stp K F O H F2 O2 H2 ∧ Rep K F2 (.ref Dl) (.lst acc) ∧ acc.length ≤ n ∧ I acc O2 := by
  obtain ⟨F2, O2, acc, vs, s2, f2, o2, h2, r2, l2, i2⟩ := x
  have sF : Same F2 (upd F2 Dl (.lst vs)) := fun b u z => by
    rw [upd_ne (ne_of_none z f2)]
    exact z
  refine ⟨upd F2 Dl (.lst vs), O2, acc, ⟨s2.same.trans sF, ⟨fun b u e => ?_, fun a m e => ?_⟩, fun b u g1 g2 g3 => ?_⟩, .lst upd_same (r2.mono sF), l2, i2⟩
  · by_cases hb : b = Dl
    · rw [hb, upd_same] at e
      rw [hb, h2]
      exact e
    · rw [upd_ne hb] at e
      exact s2.hold.sub _ _ e
  · obtain ⟨g1, u, g2, g3⟩ := s2.hold.own a m e
    have hb : a ≠ Dl := fun z => by rw [z, o2] at e; cases e
    exact ⟨by rw [upd_ne hb]; exact g1, u, g2, g3.mono sF⟩
  · have hb : b ≠ Dl := fun z => by rw [z, hD] at g3; cases g3
    obtain ⟨k1, k2, k3⟩ := s2.fr b u g1 g2 g3
    exact ⟨k1, by rw [upd_ne hb]; exact k2, k3⟩
theorem lc_turn {F : Hp} {O : Ow} {H : Hp} {Dl : Addr} {I J : List D → Ow → Prop} {n : Nat} {σ2 : L2.St} {ρ2 : DEnv} {t : DT} {p : DE} {H2 : Hp} (hD : H Dl = none) (hn : n < 100000) (er : ∀ F2, Same F F2 → EnvR K F2 σ2 ρ2)
    (step : ∀ acc O, acc.length ≤ n → I acc O → t ρ2 O fun b O1 => if b = true then p ρ2 O1 fun y O2 => J (acc ++ [y]) O2 else J acc O1) (x : LcInv K F O H Dl I n H2) :
    tT K t σ2 H2 fun b H3 => if b = true then tD K p σ2 H3 fun y H4 => ∃ acc, H4 Dl = some (.lst acc) ∧ acc.length < sizeLine ∧ LcInv K F O H Dl J (n + 1) (upd H4 Dl (.lst (acc ++ [y]))) else LcInv K F O H Dl J (n + 1) H3 := by
  obtain ⟨F2, O2, acc, vs, s2, f2, o2, h2, r2, l2, i2⟩ := x
  refine ⟨ρ2, F2, O2, _, er F2 s2.same, s2.hold, step acc O2 l2 i2, fun b O3 F3 H3 q3 s3 => ?_⟩
  obtain ⟨h3, f3, o3⟩ := s3.fr Dl _ f2 o2 h2
  cases b with
  | false => exact iteF ⟨F3, O3, acc, vs, s2.tr s3, f3, o3, h3, r2.mono s3.same, by omega, q3⟩
  | true =>
    refine iteT ⟨ρ2, F3, O3, _, er F3 (s2.same.trans s3.same), s3.hold, q3, fun y O4 v F4 H4 q4 s4 r4 => ?_⟩
    obtain ⟨h4, f4, o4⟩ := s4.fr Dl _ f3 o3 h3
    have hz : (100000 : Nat) ≤ sizeLine := by decide
    refine ⟨vs, h4, by rw [r2.length]; omega, F4, O4, acc ++ [y], vs ++ [v], ?_, f4, o4, upd_same, ((r2.mono s3.same).mono s4.same).append (.cons r4 .nil), by rw [List.length_append]; simp; omega, q4⟩
    have s24 := (s2.tr s3).tr s4
    refine ⟨s24.same, ⟨fun b u e => ?_, fun a m e => ?_⟩, fun b u g1 g2 g3 => ?_⟩
    · rw [upd_ne (ne_of_none e f4)]
      exact s4.hold.sub _ _ e
    · obtain ⟨g1, u, g2, g3⟩ := s4.hold.own a m e
      have hb : a ≠ Dl := fun z => by rw [z, o4] at e; cases e
      exact ⟨g1, u, by rw [upd_ne hb]; exact g2, g3⟩
    · obtain ⟨k1, k2, k3⟩ := s24.fr b u g1 g2 g3
      have hb : b ≠ Dl := fun z => by rw [z, hD] at g3; cases g3
      exact ⟨by rw [upd_ne hb]; exact k1, k2, k3⟩
theorem wipe1 (σ : L2.St) (j : Nat) (x : V) : L2.wipe ((L2.wipe σ [j]).set j (some x)) [j] = L2.wipe σ [j] ∧ (L2.wipe σ [j]).set j (some x) = σ.set j (some x) := by
  show ((σ.set j none).set j (some x)).set j none = σ.set j none ∧ (σ.set j none).set j (some x) = σ.set j (some x)
  exact ⟨by rw [List.set_set, List.set_set], by rw [List.set_set]⟩
/-- a comprehension's turns over what the iterator yields -/
theorem comp_imp {F F1 : Hp} {O O1 : Ow} {H H1 : Hp} {σ : L2.St} {ρ : DEnv} {J : It} {ds : List D} {j : Nat} {t : DT} {p : DE} {P : DK} {Q : VK} (er : EnvR K F1 σ ρ) (s0 : Stp K F O H F1 O1 H1) (k : Post K F O H P Q) (hz : ds.length ≤ 90000)
    (hgo : ∀ i F2 O2 H2, i < ds.length → Stp K F1 O1 H1 F2 O2 H2 → J.go i H2) (hst : ∀ F2 O2 H2, Stp K F1 O1 H1 F2 O2 H2 → J.stop ds.length H2)
    (hy : ∀ i d F2 O2 H2 x H3, ds[i]? = some d → Stp K F1 O1 H1 F2 O2 H2 → J.yld i H2 x H3 → H3 = H2 ∧ Rep K F1 x d)
    (h : dComp ds j t p ρ O1 P) : ∀ Dl, H1 Dl = none → ∃ W : Nat → Nat → Hp → Prop, (∃ m, W 0 m (upd H1 Dl (.lst []))) ∧ ∀ i m H, W i m H →
      (J.stop i H ∧ Q (.ref Dl) H) ∨ (J.go i H ∧ ∃ Nx : Hp → Prop, (∀ H', Nx H' → ∃ m', m' < m ∧ W (i + 1) m' H') ∧ ∀ x H', J.yld i H x H' → gName j x (L2.wipe σ [j]) H' fun σ2 H2 => L2.wipe σ2 [j] = L2.wipe σ [j] ∧ tT K t σ2 H2 fun b H3 =>
        if b = true then tD K p σ2 H3 fun y H4 => ∃ acc, H4 Dl = some (.lst acc) ∧ acc.length < sizeLine ∧ Nx (upd H4 Dl (.lst (acc ++ [y]))) else Nx H3) := by
  intro Dl hD
  obtain ⟨I, i0, turn, fin⟩ := h
  refine ⟨fun i m H2 => m = ds.length - i ∧ i ≤ ds.length ∧ LcInv K F1 O1 H1 Dl (I i) i H2, ⟨_, rfl, Nat.zero_le _, lc_start s0.hold hD i0⟩, ?_⟩
  rintro i m H2 ⟨rfl, hi, x2⟩
  by_cases hl : i < ds.length
  · have hd : ds[i]? = some ds[i] := List.getElem?_eq_getElem hl
    refine .inr ⟨?_, fun H3 => LcInv K F1 O1 H1 Dl (I (i + 1)) (i + 1) H3, fun H' z => ⟨ds.length - (i + 1), by omega, rfl, hl, z⟩, fun x H3 y => ?_⟩
    · obtain ⟨F2, O2, _, _, s2, _⟩ := x2
      exact hgo i F2 O2 H2 hl s2
    · obtain ⟨e, r⟩ : H3 = H2 ∧ Rep K F1 x ds[i] := by
        obtain ⟨F2, O2, _, _, s2, _⟩ := id x2
        exact hy i _ F2 O2 H2 x H3 hd s2 y
      subst e
      obtain ⟨w1, w2⟩ := wipe1 σ j x
      refine ⟨w1, ?_⟩
      rw [w2]
      exact lc_turn hD (by omega) (fun F2 sm => (er.mono sm).set j (r.mono sm)) (fun acc O hl i => turn _ _ acc O hd hl i) x2
  · have e : i = ds.length := by omega
    subst e
    refine .inl ⟨?_, ?_⟩
    · obtain ⟨F2, O2, _, _, s2, _⟩ := x2
      exact hst F2 O2 H2 s2
    · obtain ⟨F2, O2, acc, s2, r2, l2, i2⟩ := lc_fin hD x2
      exact k _ O2 _ F2 H2 (fin acc O2 l2 i2) (s0.tr s2) r2
theorem lcL_imp' {q : DE} {j : Nat} {t : DT} {p : DE} : ∀ σ H Q, tD K (dLcL q j t p) σ H Q → tLc (iList K (tD K q)) (gName j) (tT K t) (tD K p) [j] σ H Q := fun σ H Q x => by
  obtain ⟨ρ, F, O, P, er, ho, hp, k⟩ := x
  refine ⟨ρ, F, O, _, er, ho, hp, fun d O1 v F1 H1 q1 s1 r1 => ?_⟩
  obtain ⟨ds, hd, hz, ht⟩ := q1
  have hv : ∃ a vs, v = .ref a ∧ SqL K F1 a vs ∧ Reps K F1 vs ds := by
    rcases hd with rfl | rfl
    · cases r1 with
      | lst h r => exact ⟨_, _, rfl, SqL.of h, r⟩
    · cases r1 with
      | scr h r => exact ⟨_, _, rfl, h, r⟩
  obtain ⟨a, vs, rfl, hs, rr⟩ := hv
  refine ⟨a, rfl, ⟨vs, Same.seq s1.hold.sub hs⟩, comp_imp (er.mono s1.same) s1 k hz (fun i F2 O2 H2 hi s2 => ?_) (fun F2 O2 H2 s2 => ?_) (fun i d F2 O2 H2 x H3 hi s2 y => ?_) ht⟩
  · have hv : i < vs.length := by rw [rr.length]; exact hi
    exact ⟨vs, vs[i], Same.seq (s2.same.trans s2.hold.sub) hs, List.getElem?_eq_getElem hv⟩
  · exact ⟨vs, Same.seq (s2.same.trans s2.hold.sub) hs, by rw [rr.length]; exact Nat.le_refl _⟩
  · obtain ⟨e, y⟩ := y
    subst e
    have hx := y vs (Same.seq (s2.same.trans s2.hold.sub) hs)
    obtain ⟨d', h1, h2⟩ := rr.getV hx
    rw [hi] at h1
    cases h1
    exact ⟨rfl, h2⟩
theorem lcT_imp' {q : DE} {j : Nat} {t : DT} {p : DE} : ∀ σ H Q, tD K (dLcT q j t p) σ H Q → tLc (iTup K (tD K q)) (gName j) (tT K t) (tD K p) [j] σ H Q := fun σ H Q x => by
  obtain ⟨ρ, F, O, P, er, ho, hp, k⟩ := x
  refine ⟨ρ, F, O, _, er, ho, hp, fun d O1 v F1 H1 q1 s1 r1 => ?_⟩
  obtain ⟨ds, rfl, hz, ht⟩ := q1
  cases r1 with
  | tup hs rr =>
    rename_i a vs
    refine ⟨a, rfl, ⟨vs, hs.sq s1.hold.sub⟩, comp_imp (er.mono s1.same) s1 k hz (fun i F2 O2 H2 hi s2 => ?_) (fun F2 O2 H2 s2 => ?_) (fun i d F2 O2 H2 x H3 hi s2 y => ?_) ht⟩
    · have hv : i < vs.length := by rw [rr.length]; exact hi
      exact ⟨vs, vs[i], (hs.mono s2.same).sq s2.hold.sub, List.getElem?_eq_getElem hv⟩
    · exact ⟨vs, (hs.mono s2.same).sq s2.hold.sub, by rw [rr.length]; exact Nat.le_refl _⟩
    · obtain ⟨e, y⟩ := y
      subst e
      have hx := y vs ((hs.mono s2.same).sq s2.hold.sub)
      obtain ⟨d', h1, h2⟩ := rr.getV hx
      rw [hi] at h1
      cases h1
      exact ⟨rfl, h2⟩
theorem lcR_imp' {q : DA} {j : Nat} {t : DT} {p : DE} : ∀ σ H Q, tD K (dLcR q j t p) σ H Q → tLc (iRng1 (tA K q)) (gName j) (tT K t) (tD K p) [j] σ H Q := fun σ H Q x => by
  obtain ⟨ρ, F, O, P, er, ho, hp, k⟩ := x
  refine ⟨ρ, F, O, _, er, ho, hp, fun d O1 v F1 H1 q1 s1 r1 => ?_⟩
  obtain ⟨n, rfl, hz0, hz, ht⟩ := q1
  obtain ⟨v, rfl, r⟩ : ∃ v', v = [v'] ∧ Rep K F1 v' (.int n) := by
    cases r1 with
    | cons a b =>
      cases b
      exact ⟨_, rfl, a⟩
  cases r
  refine ⟨n, rfl, by omega, by omega, comp_imp (er.mono s1.same) s1 k (by rw [rngD_len]; omega) (fun i F2 O2 H2 hi _ => by rw [rngD_len] at hi; exact hi) (fun F2 O2 H2 _ => by rw [rngD_len]; exact Nat.le_refl _) (fun i d F2 O2 H2 x H3 hi s2 y => ?_) ht⟩
  obtain ⟨e, y⟩ := y
  subst e y
  obtain ⟨_, rfl⟩ := rngD_get hi
  exact ⟨rfl, .int _⟩
end
section
variable {X : Cx} {e : Expr} {st : Stmt} {q : DE} {qa : DA} {i j : Nat} {t : DT} {p : DE}
theorem q_lcL (h : PE X e (tLc (iList X.K (tD X.K q)) (gName j) (tT X.K t) (tD X.K p) [j])) : PE X e (tD X.K (dLcL q j t p)) := PE.imp h lcL_imp'
theorem q_lcT (h : PE X e (tLc (iTup X.K (tD X.K q)) (gName j) (tT X.K t) (tD X.K p) [j])) : PE X e (tD X.K (dLcT q j t p)) := PE.imp h lcT_imp'
theorem q_lcR (h : PE X e (tLc (iRng1 (tA X.K qa)) (gName j) (tT X.K t) (tD X.K p) [j])) : PE X e (tD X.K (dLcR qa j t p)) := PE.imp h lcR_imp'
theorem set_imp {K : PySem.W.Frag} {te : TE} {pe : DE} {i : Nat} (h : ∀ σ H Q, tD K pe σ H Q → te σ H Q) : ∀ E σ H, sX K W (dAsg pe (eName i)) E σ H → tAsg te (gName i) E σ H := fun E σ H x => by
  have x' := asg_imp (pe := pe) (name_imp (K := K) (i := i)) E σ H x
  exact h σ H _ x'
theorem qs_lcL (h : PS X st (tAsg (tLc (iList X.K (tD X.K q)) (gName j) (tT X.K t) (tD X.K p) [j]) (gName i))) : PS X st (sX X.K W (dAsg (dLcL q j t p) (eName i))) := PS.imp h (set_imp lcL_imp')
theorem qs_lcT (h : PS X st (tAsg (tLc (iTup X.K (tD X.K q)) (gName j) (tT X.K t) (tD X.K p) [j]) (gName i))) : PS X st (sX X.K W (dAsg (dLcT q j t p) (eName i))) := PS.imp h (set_imp lcT_imp')
theorem qs_lcR (h : PS X st (tAsg (tLc (iRng1 (tA X.K qa)) (gName j) (tT X.K t) (tD X.K p) [j]) (gName i))) : PS X st (sX X.K W (dAsg (dLcR qa j t p) (eName i))) := PS.imp h (set_imp lcR_imp')
end
/-- a comprehension whose element and test are worth f, g, whatever is owned -/
theorem comp_map {ds : List D} {j : Nat} {t : DT} {p : DE} {ρ : DEnv} {O : Ow} {P : DK} (g : D → Bool) (f : D → D) (ht : ∀ d ∈ ds, ∀ Q : Bool → Ow → Prop, Q (g d) O → t (ρ.set j (some d)) O Q) (hf : ∀ d ∈ ds, g d = true → ∀ Q : DK, Q (f d) O → p (ρ.set j (some d)) O Q)
    (h : P (.lst ((ds.filter g).map f)) O) : dComp ds j t p ρ O P := by
  refine ⟨fun i acc O' => O' = O ∧ acc = ((ds.take i).filter g).map f, ⟨rfl, rfl⟩, ?_, ?_⟩
  · rintro i d acc O' hd _ ⟨rfl, rfl⟩
    have hm := List.mem_of_getElem? hd
    refine ht d hm _ ?_
    have tk : ds.take (i + 1) = ds.take i ++ [d] := by
      rw [List.take_succ, hd]
      rfl
    cases hg : g d with
    | true =>
      refine iteT (hf d hm hg _ ⟨rfl, ?_⟩)
      rw [tk, List.filter_append, List.map_append, List.filter_cons, hg]
      rfl
    | false =>
      refine iteF ⟨rfl, ?_⟩
      rw [tk, List.filter_append, List.map_append, List.filter_cons, hg]
      simp
  · rintro acc O' _ ⟨rfl, rfl⟩
    rw [List.take_length]
    exact h
/-! ### dicts with texts as keys -/
def putS (ps : List (Str × D)) (z : Str) (d : D) : List (Str × D) := if (ps.any fun p => decide (p.1 = z)) = true then ps.map (fun p => if p.1 = z then (p.1, d) else p) else ps ++ [(z, d)]
def dctOf (ps : List (Str × D)) : List (Str × D) := ps.foldl (fun acc p => putS acc p.1 p.2) []
theorem putS_length (ps : List (Str × D)) (z : Str) (d : D) : (putS ps z d).length ≤ ps.length + 1 := by
  unfold putS
  split <;> simp
theorem dctOf_snoc (ps : List (Str × D)) (p : Str × D) : dctOf (ps ++ [p]) = putS (dctOf ps) p.1 p.2 := by
  unfold dctOf
  rw [List.foldl_append]
  rfl
theorem foldl_putS_length : ∀ (ps acc : List (Str × D)), (ps.foldl (fun acc p => putS acc p.1 p.2) acc).length ≤ acc.length + ps.length
  | [], acc => by simp
  | p :: ps, acc => by
    have h1 := foldl_putS_length ps (putS acc p.1 p.2)
    have h2 := putS_length acc p.1 p.2
    rw [List.foldl_cons, List.length_cons]
    omega
theorem dctOf_length (ps : List (Str × D)) : (dctOf ps).length ≤ ps.length := by
  have := foldl_putS_length ps []
  simpa [dctOf] using this
section
variable {K : PySem.W.Frag} {F : Hp}
theorem RepKs.length : ∀ {kvs : List (Key × V)} {ps : List (Str × D)}, RepKs K F kvs ps → kvs.length = ps.length
  | _, _, .nil => rfl
  | _, _, .cons _ r => congrArg (· + 1) (RepKs.length r)
theorem RepKs.any {z : Str} : ∀ {kvs : List (Key × V)} {ps : List (Str × D)}, RepKs K F kvs ps → (kvs.any fun kv => decide (kv.1 = Sum.inr z)) = (ps.any fun p => decide (p.1 = z))
  | _, _, .nil => rfl
  | _, _, .cons _ r => by
    rw [List.any_cons, List.any_cons, RepKs.any r]
    congr 1
    exact key_rr _ _
theorem RepKs.map {z : Str} {v : V} {d : D} (h : Rep K F v d) : ∀ {kvs : List (Key × V)} {ps : List (Str × D)}, RepKs K F kvs ps → RepKs K F (kvs.map fun kv => if kv.1 = Sum.inr z then (kv.1, v) else kv) (ps.map fun p => if p.1 = z then (p.1, d) else p)
  | _, _, .nil => .nil
  | _, _, .cons (z := y) a r => by
    rw [List.map_cons, List.map_cons]
    by_cases e : y = z
    · rw [if_pos (by rw [e]), if_pos e]
      exact .cons h (RepKs.map h r)
    · rw [if_neg (fun q => e (Sum.inr.inj q)), if_neg e]
      exact .cons a (RepKs.map h r)
theorem RepKs.snoc {z : Str} {v : V} {d : D} (h : Rep K F v d) : ∀ {kvs : List (Key × V)} {ps : List (Str × D)}, RepKs K F kvs ps → RepKs K F (kvs ++ [(Sum.inr z, v)]) (ps ++ [(z, d)])
  | _, _, .nil => .cons h .nil
  | _, _, .cons a r => .cons a (RepKs.snoc h r)
theorem RepKs.put {z : Str} {v : V} {d : D} {kvs : List (Key × V)} {ps : List (Str × D)} (r : RepKs K F kvs ps) (h : Rep K F v d) : RepKs K F (putK kvs (Sum.inr z) v) (putS ps z d) := by
  unfold putK putS
  rw [RepKs.any r]
  split
  · exact RepKs.map h r
  · exact RepKs.snoc h r
theorem RepKs.keys : ∀ {kvs : List (Key × V)} {ps : List (Str × D)}, RepKs K F kvs ps → kvs.map (·.1) = (ps.map (·.1)).map Sum.inr
  | _, _, .nil => rfl
  | _, _, .cons _ r => by rw [List.map_cons, List.map_cons, List.map_cons, RepKs.keys r]
theorem RepKs.val {z : Str} {d : D} : ∀ {kvs : List (Key × V)} {ps : List (Str × D)}, RepKs K F kvs ps → ps.lookup z = some d → ∃ v, valV kvs (Sum.inr z) = some v ∧ Rep K F v d
  | _, _, .nil, h => by cases h
  | _, _, .cons (z := y) a r, h => by
    by_cases e : y = z
    · subst e
      simp only [List.lookup_cons, beq_self_eq_true] at h
      cases h
      exact ⟨_, valV_pos rfl, a⟩
    · have hb : (z == y) = false := by
        rw [beq_eq_false_iff_ne]
        exact fun q => e q.symm
      simp only [List.lookup_cons, hb] at h
      obtain ⟨v, h1, h2⟩ := RepKs.val r h
      exact ⟨v, by rw [valV_neg (fun q => e (Sum.inr.inj q))]; exact h1, h2⟩
end
/-- {k: v for x in ds}: keys and values are worth f, g -/
def dDcD (ds : List D) (j : Nat) (pk pv : DE) : DE := fun ρ O P => ∃ (f : D → Str) (g : D → D), (∀ d ∈ ds, ∀ Q : DK, Q (.str (f d)) O → pk (ρ.set j (some d)) O Q) ∧ (∀ d ∈ ds, ∀ Q : DK, Q (g d) O → pv (ρ.set j (some d)) O Q) ∧ P (.dct (dctOf (ds.map fun d => (f d, g d)))) O
def dDcT (q : DE) (j : Nat) (pk pv : DE) : DE := fun ρ O P => q ρ O fun d O1 => ∃ ds, d = .tup ds ∧ ds.length ≤ 90000 ∧ dDcD ds j pk pv ρ O1 P
def dDcL (q : DE) (j : Nat) (pk pv : DE) : DE := fun ρ O P => q ρ O fun d O1 => ∃ ds, d = .lst ds ∧ ds.length ≤ 90000 ∧ dDcD ds j pk pv ρ O1 P
section
variable {K : PySem.W.Frag}
theorem dc_imp {F F1 : Hp} {O O1 : Ow} {H H1 : Hp} {σ : L2.St} {ρ : DEnv} {J : It} {ds : List D} {j : Nat} {pk pv : DE} {P : DK} {Q : VK} (er : EnvR K F1 σ ρ) (s0 : Stp K F O H F1 O1 H1) (k : Post K F O H P Q) (hz : ds.length ≤ 90000)
    (hgo : ∀ i F2 O2 H2, i < ds.length → Stp K F1 O1 H1 F2 O2 H2 → J.go i H2) (hst : ∀ F2 O2 H2, Stp K F1 O1 H1 F2 O2 H2 → J.stop ds.length H2)
    (hy : ∀ i d F2 O2 H2 x H3, ds[i]? = some d → Stp K F1 O1 H1 F2 O2 H2 → J.yld i H2 x H3 → H3 = H2 ∧ Rep K F1 x d)
    (h : dDcD ds j pk pv ρ O1 P) : ∀ Dl, H1 Dl = none → ∃ W : Nat → Nat → Hp → Prop, (∃ m, W 0 m (upd H1 Dl (.dK []))) ∧ ∀ i m H, W i m H →
      (J.stop i H ∧ Q (.ref Dl) H) ∨ (J.go i H ∧ ∃ Nx : Hp → Prop, (∀ H', Nx H' → ∃ m', m' < m ∧ W (i + 1) m' H') ∧ ∀ x H', J.yld i H x H' → gName j x (L2.wipe σ [j]) H' fun σ2 H2 => L2.wipe σ2 [j] = L2.wipe σ [j] ∧ tT K dYes σ2 H2 fun b H3 =>
        if b = true then tD K pk σ2 H3 fun y H4 => tD K pv σ2 H4 fun z H5 => ∃ kvs k, y = kV k ∧ H5 Dl = some (.dK kvs) ∧ kvs.length < sizeLine ∧ Nx (upd H5 Dl (.dK (putK kvs k z))) else Nx H3) := by
  intro Dl hD
  obtain ⟨f, g, hf, hg, fin⟩ := h
  obtain ⟨f1, o1⟩ := s0.hold.free hD
  have hI : ∃ I : Nat → Hp → Prop, I = fun i H2 => ∃ F2 kvs, Stp K F1 O1 H1 F2 O1 H2 ∧ F2 Dl = none ∧ H2 Dl = some (.dK kvs) ∧ RepKs K F2 kvs (dctOf ((ds.take i).map fun d => (f d, g d))) := ⟨_, rfl⟩
  obtain ⟨I, eI⟩ := hI
  have i0 : I 0 (upd H1 Dl (.dK [])) := by
    rw [eI]
    refine ⟨F1, [], ⟨Same.refl F1, ⟨fun b u e => ?_, fun a m e => ?_⟩, fun b u g1 g2 g3 => ?_⟩, f1, upd_same, .nil⟩
    · rw [upd_ne (ne_of_none e f1)]
      exact s0.hold.sub _ _ e
    · obtain ⟨g1, u, g2, g3⟩ := s0.hold.own a m e
      have hb : a ≠ Dl := fun z => by rw [z, o1] at e; cases e
      exact ⟨g1, u, by rw [upd_ne hb]; exact g2, g3⟩
    · have hb : b ≠ Dl := fun z => by rw [z, hD] at g3; cases g3
      exact ⟨by rw [upd_ne hb]; exact g3, g1, g2⟩
  refine ⟨fun i m H2 => m = ds.length - i ∧ i ≤ ds.length ∧ I i H2, ⟨_, rfl, Nat.zero_le _, i0⟩, ?_⟩
  rintro i m H2 ⟨rfl, hi, x2⟩
  have x2' := x2
  rw [eI] at x2'
  obtain ⟨F2, kvs, s2, f2, h2, r2⟩ := x2'
  by_cases hl : i < ds.length
  · have hd : ds[i]? = some ds[i] := List.getElem?_eq_getElem hl
    have hm : ds[i] ∈ ds := List.getElem_mem hl
    refine .inr ⟨hgo i F2 O1 H2 hl s2, I (i + 1), fun H' z => ⟨ds.length - (i + 1), by omega, rfl, hl, z⟩, fun x H3 y => ?_⟩
    obtain ⟨e, r⟩ := hy i _ F2 O1 H2 x H3 hd s2 y
    subst e
    obtain ⟨w1, w2⟩ := wipe1 σ j x
    refine ⟨w1, ?_⟩
    rw [w2]
    have er2 : ∀ F', Same F1 F' → EnvR K F' (σ.set j (some x)) (ρ.set j (some ds[i])) := fun F' sm => (er.mono sm).set j (r.mono sm)
    refine ⟨_, F2, O1, fun b O' => b = true ∧ O' = O1, er2 F2 s2.same, s2.hold, ⟨rfl, rfl⟩, ?_⟩
    rintro b O3 F3 H3 ⟨rfl, rfl⟩ s3
    obtain ⟨h3, f3, _⟩ := s3.fr Dl _ f2 o1 h2
    refine iteT ⟨_, F3, O3, fun d' O' => d' = .str (f ds[i]) ∧ O' = O3, er2 F3 (s2.same.trans s3.same), s3.hold, hf _ hm _ ⟨rfl, rfl⟩, ?_⟩
    rintro d4 O4 v4 F4 H4 ⟨rfl, rfl⟩ s4 r4
    cases r4
    obtain ⟨h4, f4, _⟩ := s4.fr Dl _ f3 o1 h3
    refine ⟨_, F4, O4, fun d' O' => d' = g ds[i] ∧ O' = O4, er2 F4 ((s2.same.trans s3.same).trans s4.same), s4.hold, hg _ hm _ ⟨rfl, rfl⟩, ?_⟩
    rintro d5 O5 v5 F5 H5 ⟨rfl, rfl⟩ s5 r5
    obtain ⟨h5, f5, _⟩ := s5.fr Dl _ f4 o1 h4
    have s25 := ((s2.tr s3).tr s4).tr s5
    have r25 := ((r2.mono s3.same).mono s4.same).mono s5.same
    have tk : ds.take (i + 1) = ds.take i ++ [ds[i]] := by
      rw [List.take_succ, hd]
      rfl
    refine ⟨kvs, Sum.inr (f ds[i]), rfl, h5, ?_, ?_⟩
    · have l1 := r2.length
      have l2 := dctOf_length ((ds.take i).map fun d => (f d, g d))
      rw [List.length_map, List.length_take] at l2
      have hz : (100000 : Nat) ≤ sizeLine := by decide
      omega
    · rw [eI]
      refine ⟨F5, _, ⟨s25.same, ⟨fun b u e => ?_, fun a m e => ?_⟩, fun b u g1 g2 g3 => ?_⟩, f5, upd_same, ?_⟩
      · rw [upd_ne (ne_of_none e f5)]
        exact s5.hold.sub _ _ e
      · obtain ⟨g1, u, g2, g3⟩ := s5.hold.own a m e
        have hb : a ≠ Dl := fun z => by rw [z, o1] at e; cases e
        exact ⟨g1, u, by rw [upd_ne hb]; exact g2, g3⟩
      · obtain ⟨k1, k2, k3⟩ := s25.fr b u g1 g2 g3
        have hb : b ≠ Dl := fun z => by rw [z, hD] at g3; cases g3
        exact ⟨by rw [upd_ne hb]; exact k1, k2, k3⟩
      · rw [tk, List.map_append]
        show RepKs K F5 _ (dctOf (_ ++ [(f ds[i], g ds[i])]))
        rw [dctOf_snoc]
        exact r25.put r5
  · have e : i = ds.length := by omega
    subst e
    refine .inl ⟨hst F2 O1 H2 s2, ?_⟩
    rw [List.take_length] at r2
    have sF : Same F2 (upd F2 Dl (.dK kvs)) := fun b u z => by
      rw [upd_ne (ne_of_none z f2)]
      exact z
    refine k _ O1 _ (upd F2 Dl (.dK kvs)) H2 fin (s0.tr ⟨s2.same.trans sF, ⟨fun b u e => ?_, fun a m e => ?_⟩, fun b u g1 g2 g3 => ?_⟩) (.dct upd_same (r2.mono sF))
    · by_cases hb : b = Dl
      · rw [hb, upd_same] at e
        rw [hb, h2]
        exact e
      · rw [upd_ne hb] at e
        exact s2.hold.sub _ _ e
    · obtain ⟨g1, u, g2, g3⟩ := s2.hold.own a m e
      have hb : a ≠ Dl := fun z => by rw [z, o1] at e; cases e
      exact ⟨by rw [upd_ne hb]; exact g1, u, g2, g3.mono sF⟩
    · have hb : b ≠ Dl := fun z => by rw [z, hD] at g3; cases g3
      obtain ⟨k1, k2, k3⟩ := s2.fr b u g1 g2 g3
      exact ⟨k1, by rw [upd_ne hb]; exact k2, k3⟩
theorem dcT_imp {q : DE} {j : Nat} {pk pv : DE} : ∀ σ H Q, tD K (dDcT q j pk pv) σ H Q → tDc (iTup K (tD K q)) (gName j) (tT K dYes) (tD K pk) (tD K pv) [j] σ H Q := fun σ H Q x => by
  obtain ⟨ρ, F, O, P, er, ho, hp, k⟩ := x
  refine ⟨ρ, F, O, _, er, ho, hp, fun d O1 v F1 H1 q1 s1 r1 => ?_⟩
  obtain ⟨ds, rfl, hz, ht⟩ := q1
  cases r1 with
  | tup hs rr =>
    rename_i a vs
    refine ⟨a, rfl, ⟨vs, hs.sq s1.hold.sub⟩, dc_imp (er.mono s1.same) s1 k hz (fun i F2 O2 H2 hi s2 => ?_) (fun F2 O2 H2 s2 => ?_) (fun i d F2 O2 H2 x H3 hi s2 y => ?_) ht⟩
    · have hv : i < vs.length := by rw [rr.length]; exact hi
      exact ⟨vs, vs[i], (hs.mono s2.same).sq s2.hold.sub, List.getElem?_eq_getElem hv⟩
    · exact ⟨vs, (hs.mono s2.same).sq s2.hold.sub, by rw [rr.length]; exact Nat.le_refl _⟩
    · obtain ⟨e, y⟩ := y
      subst e
      have hx := y vs ((hs.mono s2.same).sq s2.hold.sub)
      obtain ⟨d', h1, h2⟩ := rr.getV hx
      rw [hi] at h1
      cases h1
      exact ⟨rfl, h2⟩
theorem dcL_imp {q : DE} {j : Nat} {pk pv : DE} : ∀ σ H Q, tD K (dDcL q j pk pv) σ H Q → tDc (iList K (tD K q)) (gName j) (tT K dYes) (tD K pk) (tD K pv) [j] σ H Q := fun σ H Q x => by
  obtain ⟨ρ, F, O, P, er, ho, hp, k⟩ := x
  refine ⟨ρ, F, O, _, er, ho, hp, fun d O1 v F1 H1 q1 s1 r1 => ?_⟩
  obtain ⟨ds, rfl, hz, ht⟩ := q1
  cases r1 with
  | lst hs rr =>
    rename_i a vs
    refine ⟨a, rfl, ⟨vs, SqL.of (s1.hold.sub _ _ hs)⟩, dc_imp (er.mono s1.same) s1 k hz (fun i F2 O2 H2 hi s2 => ?_) (fun F2 O2 H2 s2 => ?_) (fun i d F2 O2 H2 x H3 hi s2 y => ?_) ht⟩
    · have hv : i < vs.length := by rw [rr.length]; exact hi
      exact ⟨vs, vs[i], SqL.of (s2.hold.sub _ _ (s2.same _ _ hs)), List.getElem?_eq_getElem hv⟩
    · exact ⟨vs, SqL.of (s2.hold.sub _ _ (s2.same _ _ hs)), by rw [rr.length]; exact Nat.le_refl _⟩
    · obtain ⟨e, y⟩ := y
      subst e
      have hx := y vs (SqL.of (s2.hold.sub _ _ (s2.same _ _ hs)))
      obtain ⟨d', h1, h2⟩ := rr.getV hx
      rw [hi] at h1
      cases h1
      exact ⟨rfl, h2⟩
end
section
variable {X : Cx} {e : Expr} {q : DE} {j : Nat} {pk pv : DE}
theorem q_dcT (h : PE X e (tDc (iTup X.K (tD X.K q)) (gName j) (tT X.K dYes) (tD X.K pk) (tD X.K pv) [j])) : PE X e (tD X.K (dDcT q j pk pv)) := PE.imp h dcT_imp
theorem q_dcL (h : PE X e (tDc (iList X.K (tD X.K q)) (gName j) (tT X.K dYes) (tD X.K pk) (tD X.K pv) [j])) : PE X e (tD X.K (dDcL q j pk pv)) := PE.imp h dcL_imp
end
end Tw

namespace Tw
open PySem L2
theorem at1_0' {x : D} : L2.atI [x] 0 = some x := rfl
theorem at2_0' {x y : D} : L2.atI [x, y] 0 = some x := rfl
theorem at2_1' {x y : D} : L2.atI [x, y] 1 = some y := rfl
theorem at3_0' {x y z : D} : L2.atI [x, y, z] 0 = some x := rfl
theorem at3_1' {x y z : D} : L2.atI [x, y, z] 1 = some y := rfl
theorem at3_2' {x y z : D} : L2.atI [x, y, z] 2 = some z := rfl
theorem at5_0' {a b c d e : D} : L2.atI [a, b, c, d, e] 0 = some a := rfl
theorem at5_1' {a b c d e : D} : L2.atI [a, b, c, d, e] 1 = some b := rfl
theorem at5_2' {a b c d e : D} : L2.atI [a, b, c, d, e] 2 = some c := rfl
theorem at5_3' {a b c d e : D} : L2.atI [a, b, c, d, e] 3 = some d := rfl
theorem at5_4' {a b c d e : D} : L2.atI [a, b, c, d, e] 4 = some e := rfl
/-- a promise over data, used where the heap is told -/
theorem Hold.none {K : PySem.W.Frag} {H : Hp} : Hold K (fun _ => .none) (fun _ => .none) H := ⟨fun _ _ e => (nomatch e), fun _ _ e => (nomatch e)⟩
theorem spP_of {K : PySem.W.Frag} {g : List D → Ow → DK → Prop} {vs : List V} {ds : List D} {H : Hp} {Q : VK} {E : XK} {v : V} {d : D} (r : ∀ F, Reps K F vs ds) (r' : ∀ F u, Rep K F u d → u = v) (h : ∀ (O : Ow) (P : DK), P d O → g ds O P) (k : ∀ H', Same H H' → Q v H') : spP K g vs H Q E := by
  refine ⟨ds, fun _ => .none, fun _ => .none, fun d' _ => d' = d, r _, Hold.none, h _ _ rfl, ?_⟩
  rintro d' O' u F' H' rfl st rr
  have e := r' _ _ rr
  subst e
  exact k H' fun b o e => (st.fr b o rfl rfl e).1
theorem rep_bl {K : PySem.W.Frag} {F : Hp} {u : V} {b : Bool} (r : Rep K F u (.bl b)) : u = .bl b := by cases r; rfl
/-- what a reading with a known answer says -/
def ans (f : List D → Option D) : List D → Ow → DK → Prop := fun ds O P => ∃ d, f ds = some d ∧ P d O
/-! ### questions -/
def g_is_integer : List D → Ow → DK → Prop := fun ds O P => ∃ d, ds = [d] ∧ fltD d = true ∧ P (.bl (isIntD d)) O
def expOkD : D → Bool
  | .int _ => true
  | .str z => decide (z = "F") || decide (z = "n") || decide (z = "N")
  | _ => false
def g_is_exponent : List D → Ow → DK → Prop := fun ds O P => ∃ d, ds = [d] ∧ fltD d = true ∧ P (.bl (expOkD d)) O
def Ex4.isFin : Ex4 → Bool
  | .fin _ => true
  | _ => false
def Ex4.isInf : Ex4 → Bool
  | .inf => true
  | _ => false
def Ex4.isNan : Ex4 → Bool
  | .qn => true
  | .sn => true
  | _ => false
def Ex4.isSn : Ex4 → Bool
  | .sn => true
  | _ => false
/-- a question about one Decimal -/
def gQ (f : Dc → Bool) : List D → Ow → DK → Prop := fun ds O P => ∃ a, ds = [.dec a] ∧ P (.bl (f a)) O
theorem flt_ex : ∀ e : Ex4, fltD e.d = true
  | .fin _ => rfl
  | .inf => rfl
  | .qn => rfl
  | .sn => rfl
theorem int_ex : ∀ e : Ex4, isIntD e.d = e.isFin
  | .fin _ => rfl
  | .inf => rfl
  | .qn => rfl
  | .sn => rfl
theorem sc_ex : ∀ (e : Ex4) (z : Str), sc2 e.d (.str z) = true
  | .fin _, _ => rfl
  | .inf, _ => rfl
  | .qn, _ => rfl
  | .sn, _ => rfl
theorem ex_F : ∀ e : Ex4, seq e.d (.str "F") = e.isInf
  | .fin _ => rfl
  | .inf => by decide +kernel
  | .qn => by decide +kernel
  | .sn => by decide +kernel
theorem ex_n : ∀ e : Ex4, seq e.d (.str "n") = decide (e = .qn)
  | .fin _ => rfl
  | .inf => by decide +kernel
  | .qn => by decide +kernel
  | .sn => by decide +kernel
theorem ex_N : ∀ e : Ex4, seq e.d (.str "N") = e.isSn
  | .fin _ => rfl
  | .inf => by decide +kernel
  | .qn => by decide +kernel
  | .sn => by decide +kernel
theorem nan_or : ∀ e : Ex4, e.isNan = (decide (e = .qn) || e.isSn)
  | .fin _ => rfl
  | .inf => rfl
  | .qn => rfl
  | .sn => rfl
theorem scal_ex (e : Ex4) (z : Str) : scal e.v (.str z) = true := by cases e <;> rfl
theorem ex_eqF (e : Ex4) : decide (e.v = .str "F") = e.isInf := by
  cases e with
  | fin n => rfl
  | inf => decide +kernel
  | qn => decide +kernel
  | sn => decide +kernel
/-! ### data of known form -/
theorem fltD_non  : fltD .non = true := rfl
theorem fltD_bl {b : Bool} : fltD (.bl b) = true := rfl
theorem fltD_int {i : Int} : fltD (.int i) = true := rfl
theorem fltD_str {z : Str} : fltD (.str z) = true := rfl
theorem fltD_tup {xs : List D} : fltD (.tup xs) = false := rfl
theorem fltD_lst {xs : List D} : fltD (.lst xs) = false := rfl
theorem fltD_dec {a : Dc} : fltD (.dec a) = false := rfl
theorem fltD_rul {r : Ru} : fltD (.rul r) = false := rfl
theorem fltD_ref {p : Addr} : fltD (.ref p) = false := rfl
theorem isIntD_non  : isIntD .non = false := rfl
theorem isIntD_bl {b : Bool} : isIntD (.bl b) = false := rfl
theorem isIntD_int {i : Int} : isIntD (.int i) = true := rfl
theorem isIntD_str {z : Str} : isIntD (.str z) = false := rfl
theorem isIntD_tup {xs : List D} : isIntD (.tup xs) = false := rfl
theorem isIntD_lst {xs : List D} : isIntD (.lst xs) = false := rfl
theorem isIntD_dec {a : Dc} : isIntD (.dec a) = false := rfl
theorem isIntD_rul {r : Ru} : isIntD (.rul r) = false := rfl
theorem isIntD_ref {p : Addr} : isIntD (.ref p) = false := rfl
theorem isNumD_non  : isNumD .non = false := rfl
theorem isNumD_bl {b : Bool} : isNumD (.bl b) = true := rfl
theorem isNumD_int {i : Int} : isNumD (.int i) = true := rfl
theorem isNumD_str {z : Str} : isNumD (.str z) = false := rfl
theorem isNumD_tup {xs : List D} : isNumD (.tup xs) = false := rfl
theorem isNumD_lst {xs : List D} : isNumD (.lst xs) = false := rfl
theorem isNumD_dec {a : Dc} : isNumD (.dec a) = false := rfl
theorem isNumD_rul {r : Ru} : isNumD (.rul r) = false := rfl
theorem isNumD_ref {p : Addr} : isNumD (.ref p) = false := rfl
theorem isBlD_non  : isBlD .non = false := rfl
theorem isBlD_bl {b : Bool} : isBlD (.bl b) = true := rfl
theorem isBlD_int {i : Int} : isBlD (.int i) = false := rfl
theorem isBlD_str {z : Str} : isBlD (.str z) = false := rfl
theorem isBlD_tup {xs : List D} : isBlD (.tup xs) = false := rfl
theorem isBlD_lst {xs : List D} : isBlD (.lst xs) = false := rfl
theorem isBlD_dec {a : Dc} : isBlD (.dec a) = false := rfl
theorem isBlD_rul {r : Ru} : isBlD (.rul r) = false := rfl
theorem isBlD_ref {p : Addr} : isBlD (.ref p) = false := rfl
theorem isStrD_non  : isStrD .non = false := rfl
theorem isStrD_bl {b : Bool} : isStrD (.bl b) = false := rfl
theorem isStrD_int {i : Int} : isStrD (.int i) = false := rfl
theorem isStrD_str {z : Str} : isStrD (.str z) = true := rfl
theorem isStrD_tup {xs : List D} : isStrD (.tup xs) = false := rfl
theorem isStrD_lst {xs : List D} : isStrD (.lst xs) = false := rfl
theorem isStrD_dec {a : Dc} : isStrD (.dec a) = false := rfl
theorem isStrD_rul {r : Ru} : isStrD (.rul r) = false := rfl
theorem isStrD_ref {p : Addr} : isStrD (.ref p) = false := rfl
theorem isNon_non  : isNon .non = true := rfl
theorem isNon_bl {b : Bool} : isNon (.bl b) = false := rfl
theorem isNon_int {i : Int} : isNon (.int i) = false := rfl
theorem isNon_str {z : Str} : isNon (.str z) = false := rfl
theorem isNon_tup {xs : List D} : isNon (.tup xs) = false := rfl
theorem isNon_lst {xs : List D} : isNon (.lst xs) = false := rfl
theorem isNon_dec {a : Dc} : isNon (.dec a) = false := rfl
theorem isNon_rul {r : Ru} : isNon (.rul r) = false := rfl
theorem isNon_ref {p : Addr} : isNon (.ref p) = false := rfl
theorem numD_int {i : Int} : numD (.int i) = some i := rfl
theorem numD_bl {b : Bool} : numD (.bl b) = some (if b = true then 1 else 0) := rfl
theorem gSign_dec {a : Dc} : gSign (.dec a) = some (.int a.s) := rfl
theorem gCoef_dec {a : Dc} : gCoef (.dec a) = some (.int a.c) := rfl
theorem gExp_dec {a : Dc} : gExp (.dec a) = some a.e.d := rfl
theorem gPrec_rul {r : Ru} : gPrec (.rul r) = some (.int r.prec) := rfl
theorem gRnd_rul {r : Ru} : gRnd (.rul r) = some (.str r.rnd) := rfl
theorem gEmin_rul {r : Ru} : gEmin (.rul r) = some (.int r.emin) := rfl
theorem gEmax_rul {r : Ru} : gEmax (.rul r) = some (.int r.emax) := rfl
theorem gClamp_rul {r : Ru} : gClamp (.rul r) = some (.int r.clamp) := rfl
theorem sc2_non_non   : sc2 .non .non = true := rfl
theorem seq_non_non   : seq .non .non = true := rfl
theorem eqF_non_non   : eqF .non .non = true := rfl
theorem sc2_non_bl  {b' : Bool} : sc2 .non (.bl b') = true := rfl
theorem seq_non_bl  {b' : Bool} : seq .non (.bl b') = false := rfl
theorem eqF_non_bl  {b' : Bool} : eqF .non (.bl b') = false := rfl
theorem sc2_non_int  {i' : Int} : sc2 .non (.int i') = true := rfl
theorem seq_non_int  {i' : Int} : seq .non (.int i') = false := rfl
theorem eqF_non_int  {i' : Int} : eqF .non (.int i') = false := rfl
theorem sc2_non_str  {z' : Str} : sc2 .non (.str z') = true := rfl
theorem seq_non_str  {z' : Str} : seq .non (.str z') = false := rfl
theorem eqF_non_str  {z' : Str} : eqF .non (.str z') = false := rfl
theorem sc2_bl_non {b : Bool}  : sc2 (.bl b) .non = true := rfl
theorem seq_bl_non {b : Bool}  : seq (.bl b) .non = false := rfl
theorem eqF_bl_non {b : Bool}  : eqF (.bl b) .non = false := rfl
theorem sc2_bl_bl {b : Bool} {b' : Bool} : sc2 (.bl b) (.bl b') = true := rfl
theorem seq_bl_bl {b : Bool} {b' : Bool} : seq (.bl b) (.bl b') = decide (b = b') := rfl
theorem eqF_bl_bl {b : Bool} {b' : Bool} : eqF (.bl b) (.bl b') = (b == b') := rfl
theorem eqF_bl_int {b : Bool} {i' : Int} : eqF (.bl b) (.int i') = ((if b = true then 1 else 0) == i') := rfl
theorem sc2_bl_str {b : Bool} {z' : Str} : sc2 (.bl b) (.str z') = true := rfl
theorem seq_bl_str {b : Bool} {z' : Str} : seq (.bl b) (.str z') = false := rfl
theorem eqF_bl_str {b : Bool} {z' : Str} : eqF (.bl b) (.str z') = false := rfl
theorem sc2_int_non {i : Int}  : sc2 (.int i) .non = true := rfl
theorem seq_int_non {i : Int}  : seq (.int i) .non = false := rfl
theorem eqF_int_non {i : Int}  : eqF (.int i) .non = false := rfl
theorem eqF_int_bl {i : Int} {b' : Bool} : eqF (.int i) (.bl b') = (i == (if b' = true then 1 else 0)) := rfl
theorem sc2_int_int {i : Int} {i' : Int} : sc2 (.int i) (.int i') = true := rfl
theorem seq_int_int {i : Int} {i' : Int} : seq (.int i) (.int i') = decide (i = i') := rfl
theorem eqF_int_int {i : Int} {i' : Int} : eqF (.int i) (.int i') = decide (i' = i) := rfl
theorem sc2_int_str {i : Int} {z' : Str} : sc2 (.int i) (.str z') = true := rfl
theorem seq_int_str {i : Int} {z' : Str} : seq (.int i) (.str z') = false := rfl
theorem eqF_int_str {i : Int} {z' : Str} : eqF (.int i) (.str z') = false := rfl
theorem sc2_str_non {z : Str}  : sc2 (.str z) .non = true := rfl
theorem seq_str_non {z : Str}  : seq (.str z) .non = false := rfl
theorem eqF_str_non {z : Str}  : eqF (.str z) .non = false := rfl
theorem sc2_str_bl {z : Str} {b' : Bool} : sc2 (.str z) (.bl b') = true := rfl
theorem seq_str_bl {z : Str} {b' : Bool} : seq (.str z) (.bl b') = false := rfl
theorem eqF_str_bl {z : Str} {b' : Bool} : eqF (.str z) (.bl b') = false := rfl
theorem sc2_str_int {z : Str} {i' : Int} : sc2 (.str z) (.int i') = true := rfl
theorem seq_str_int {z : Str} {i' : Int} : seq (.str z) (.int i') = false := rfl
theorem eqF_str_int {z : Str} {i' : Int} : eqF (.str z) (.int i') = false := rfl
theorem sc2_str_str {z : Str} {z' : Str} : sc2 (.str z) (.str z') = true := rfl
theorem seq_str_str {z : Str} {z' : Str} : seq (.str z) (.str z') = decide (z = z') := rfl
theorem eqF_str_str {z : Str} {z' : Str} : eqF (.str z) (.str z') = decide (z' = z) := rfl
theorem inD_nil {x : D} : inD x [] = false := rfl
theorem inD_cons {x y : D} {ys : List D} : inD x (y :: ys) = (eqF y x || inD x ys) := rfl
theorem exd_fin {n : Int} : (Ex4.fin n).d = .int n := rfl
theorem exd_inf  : Ex4.inf.d = .str "F" := rfl
theorem exd_qn  : Ex4.qn.d = .str "n" := rfl
theorem exd_sn  : Ex4.sn.d = .str "N" := rfl
theorem isFin_fin {n : Int} : (Ex4.fin n).isFin = true := rfl
theorem isFin_inf  : Ex4.inf.isFin = false := rfl
theorem isFin_qn  : Ex4.qn.isFin = false := rfl
theorem isFin_sn  : Ex4.sn.isFin = false := rfl
theorem isInf_fin {n : Int} : (Ex4.fin n).isInf = false := rfl
theorem isInf_inf  : Ex4.inf.isInf = true := rfl
theorem isInf_qn  : Ex4.qn.isInf = false := rfl
theorem isInf_sn  : Ex4.sn.isInf = false := rfl
theorem isNan_fin {n : Int} : (Ex4.fin n).isNan = false := rfl
theorem isNan_inf  : Ex4.inf.isNan = false := rfl
theorem isNan_qn  : Ex4.qn.isNan = true := rfl
theorem isNan_sn  : Ex4.sn.isNan = true := rfl
theorem isSn_fin {n : Int} : (Ex4.fin n).isSn = false := rfl
theorem isSn_inf  : Ex4.inf.isSn = false := rfl
theorem isSn_qn  : Ex4.qn.isSn = false := rfl
theorem isSn_sn  : Ex4.sn.isSn = true := rfl
end Tw

namespace Tw
open PySem L2
/-! ### the order of texts -/
theorem lc_trans : ∀ a b c : List Nat, Spec.ltCps a b = true → Spec.ltCps b c = true → Spec.ltCps a c = true
  | [], [], _, h, _ => by cases h
  | [], _ :: _, [], _, h => by cases h
  | [], _ :: _, _ :: _, _, _ => rfl
  | _ :: _, [], _, h, _ => by cases h
  | _ :: _, _ :: _, [], _, h => by cases h
  | x :: r, y :: t, z :: u, h1, h2 => by
    unfold Spec.ltCps at h1 h2 ⊢
    simp only [Bool.or_eq_true, Bool.and_eq_true, decide_eq_true_eq, beq_iff_eq] at h1 h2 ⊢
    rcases h1 with h1 | ⟨h1, h1'⟩
    · rcases h2 with h2 | ⟨h2, _⟩
      · exact .inl (by omega)
      · exact .inl (by omega)
    · rcases h2 with h2 | ⟨h2, h2'⟩
      · exact .inl (by omega)
      · exact .inr ⟨by omega, lc_trans _ _ _ h1' h2'⟩
theorem lc_conn : ∀ a b : List Nat, Spec.ltCps a b = false → Spec.ltCps b a = false → a = b
  | [], [], _, _ => rfl
  | [], _ :: _, h, _ => by cases h
  | _ :: _, [], _, h => by cases h
  | x :: r, y :: t, h1, h2 => by
    unfold Spec.ltCps at h1 h2
    simp only [Bool.or_eq_false_iff, Bool.and_eq_false_iff, decide_eq_false_iff_not, beq_eq_false_iff_ne] at h1 h2
    have e : x = y := by omega
    subst e
    obtain ⟨_, h1⟩ := h1
    obtain ⟨_, h2⟩ := h2
    rw [lc_conn r t (h1.resolve_left (fun h => h rfl)) (h2.resolve_left (fun h => h rfl))]
def leS (a b : Str) : Prop := Spec.ltCps b.cps.toList a.cps.toList = false
theorem leS_anti {a b : Str} (h1 : leS a b) (h2 : leS b a) : a = b := by
  have h := lc_conn _ _ h2 h1
  cases a with
  | mk x =>
    cases b with
    | mk y =>
      have e : x = y := by
        cases x
        cases y
        exact congrArg Array.mk h
      rw [e]
theorem leS_trans {a b c : Str} (h1 : leS a b) (h2 : leS b c) : leS a c := by
  unfold leS at *
  cases h : Spec.ltCps c.cps.toList a.cps.toList with
  | false => rfl
  | true =>
    exfalso
    cases h3 : Spec.ltCps a.cps.toList b.cps.toList with
    | true =>
      have := lc_trans _ _ _ h h3
      rw [h2] at this
      cases this
    | false =>
      have e := lc_conn _ _ h3 h1
      rw [e, h2] at h
      cases h
theorem rising_pw : ∀ (l : List Str) (p : Str), PyProof.Rows.risingS p l = true → (p :: l).Pairwise leS
  | [], p, _ => List.pairwise_singleton ..
  | x :: r, p, h => by
    have h' : (!Spec.ltCps x.cps.toList p.cps.toList && PyProof.Rows.risingS x r) = true := h
    obtain ⟨h1, h2⟩ := Bool.and_eq_true_iff.mp h'
    have ih := rising_pw r x h2
    have hx : leS p x := by simpa [leS] using h1
    refine List.pairwise_cons.mpr ⟨fun y hy => ?_, ih⟩
    rcases List.mem_cons.mp hy with rfl | hy
    · exact hx
    · exact leS_trans hx ((List.pairwise_cons.mp ih).1 y hy)
theorem sorted_pw {l : List Str} (h : PyProof.Rows.sortedS l = true) : l.Pairwise leS := by
  cases l with
  | nil => exact List.Pairwise.nil
  | cons x r => exact rising_pw r x h
theorem sorted_uniq : ∀ {xs ys : List Str}, xs.Perm ys → xs.Pairwise leS → ys.Pairwise leS → xs = ys
  | [], ys, p, _, _ => (List.Perm.nil_eq p)
  | x :: xs, [], p, _, _ => (List.Perm.eq_nil p)
  | x :: xs, y :: ys, p, h1, h2 => by
    have e : x = y := by
      by_cases h : x = y
      · exact h
      · have m1 : x ∈ y :: ys := p.mem_iff.mp (List.mem_cons_self ..)
        have m2 : y ∈ x :: xs := p.mem_iff.mpr (List.mem_cons_self ..)
        have m1 := (List.mem_cons.mp m1).resolve_left h
        have m2 := (List.mem_cons.mp m2).resolve_left (fun q => h q.symm)
        exact leS_anti ((List.pairwise_cons.mp h1).1 y m2) ((List.pairwise_cons.mp h2).1 x m1)
    subst e
    rw [sorted_uniq (List.Perm.cons_inv p) (List.pairwise_cons.mp h1).2 (List.pairwise_cons.mp h2).2]
def insS (x : Str) : List Str → List Str
  | [] => [x]
  | y :: r => if Spec.ltCps y.cps.toList x.cps.toList = true then y :: insS x r else x :: y :: r
def sortS (xs : List Str) : List Str := xs.foldr insS []
theorem insS_perm (x : Str) : ∀ l : List Str, (insS x l).Perm (x :: l)
  | [] => List.Perm.refl _
  | y :: r => by
    unfold insS
    split
    · exact (List.Perm.cons y (insS_perm x r)).trans (List.Perm.swap x y r)
    · exact List.Perm.refl _
theorem sortS_perm : ∀ l : List Str, (sortS l).Perm l
  | [] => List.Perm.refl _
  | x :: r => (insS_perm x (sortS r)).trans (List.Perm.cons x (sortS_perm r))
theorem lc_asymm : ∀ a b : List Nat, Spec.ltCps a b = true → Spec.ltCps b a = false
  | [], [], h => by cases h
  | [], _ :: _, _ => rfl
  | _ :: _, [], h => by cases h
  | x :: r, y :: t, h => by
    unfold Spec.ltCps at h ⊢
    simp only [Bool.or_eq_true, Bool.and_eq_true, decide_eq_true_eq, beq_iff_eq] at h
    simp only [Bool.or_eq_false_iff, Bool.and_eq_false_iff, decide_eq_false_iff_not, beq_eq_false_iff_ne]
    rcases h with h | ⟨h, h'⟩
    · exact ⟨by omega, .inl (by omega)⟩
    · exact ⟨by omega, .inr (lc_asymm _ _ h')⟩
theorem insS_pw (x : Str) : ∀ l : List Str, l.Pairwise leS → (insS x l).Pairwise leS
  | [], _ => List.pairwise_singleton ..
  | y :: r, h => by
    obtain ⟨h1, h2⟩ := List.pairwise_cons.mp h
    unfold insS
    split
    · rename_i hl
      refine List.pairwise_cons.mpr ⟨fun z hz => ?_, insS_pw x r h2⟩
      rcases List.mem_cons.mp ((insS_perm x r).mem_iff.mp hz) with rfl | hz
      · exact lc_asymm _ _ hl
      · exact h1 z hz
    · rename_i hl
      have hxy : leS x y := by simpa [leS] using hl
      refine List.pairwise_cons.mpr ⟨fun z hz => ?_, h⟩
      rcases List.mem_cons.mp hz with rfl | hz
      · exact hxy
      · exact leS_trans hxy (h1 z hz)
theorem sortS_pw : ∀ l : List Str, (sortS l).Pairwise leS
  | [] => List.Pairwise.nil
  | x :: r => insS_pw x _ (sortS_pw r)
theorem sortS_of {ys ks : List Str} (p : ys.Perm ks) (h : PyProof.Rows.sortedS ys = true) : ys = sortS ks := sorted_uniq (p.trans (sortS_perm ks).symm) (sorted_pw h) (sortS_pw ks)
/-! ### sorted of a dict -/
def fSortD : List D → Ow → DK → Prop := fun ds O P => ∃ ps, ds = [.dct ps] ∧ ps.length < 64 ∧ P (.lst ((sortS (ps.map (·.1))).map D.str)) O
theorem c_sortD {K : PySem.W.Frag} : RCl K (fun xs H Q => ∃ (a : Addr) (kvs : List (Key × V)) (ks : List Str), xs = [.ref a] ∧ Rd H a (.dK kvs) ∧ kvs.map (·.1) = ks.map Sum.inr ∧ ks.length < 64 ∧
    ∀ ys p, ys.Perm ks → PyProof.Rows.sortedS ys = true → H p = none → Q (.ref p) (upd H p (.lst (ys.map V.str)))) fSortD := fun F O H vs ds P Q r ho h k => by
  obtain ⟨ps, rfl, hl, hp⟩ := h
  obtain ⟨v, rfl, q⟩ := r.one
  cases q with
  | dct q1 q2 =>
    refine ⟨_, _, ps.map (·.1), rfl, .inl (ho.sub _ _ q1), q2.keys, by rw [List.length_map]; exact hl, fun ys p hy hs np => ?_⟩
    have e := sortS_of hy hs
    subst e
    exact k _ O _ _ _ hp (ho.new np) (.lst upd_same (Reps.of_strs _))
/-- sorted of a frozen list of texts -/
def fSortL : List D → Ow → DK → Prop := fun ds O P => ∃ zs : List Str, ds = [.lst (zs.map D.str)] ∧ zs.length < 64 ∧ P (.lst ((sortS zs).map D.str)) O
/-! ### contexts -/
def dCFld (f : Ru → Int → List Str → List Str → D) (p : DE) : DE := fun ρ O P => p ρ O fun d O1 => ∃ a r cap tr ra, d = .ref a ∧ O1 a = some (.ctx r cap tr ra) ∧ P (f r cap tr ra) O1
def RCFld (K : PySem.W.Frag) (f : Str) (g : Ru → Int → List Str → List Str → D) : Prop := ∀ (F : Hp) (r : Ru) (cap : Int) (trp flg : List Str) (tr ra : Addr) (rv : V), Rep K F rv (.rul r) → Rep K F (.ref tr) (.lst (trp.map D.str)) → Rep K F (.ref ra) (.lst (flg.map D.str)) → ∃ v, (ctxF tr ra r cap rv).lookup f = some v ∧ Rep K F v (g r cap trp flg)
section
variable {X : Cx} {e : Expr} {p : DE} {f : Str} {pos : Pos} {g : Ru → Int → List Str → List Str → D}
theorem q_cfld (hg : RCFld X.K f g) (cl : Cls X.K (He.ga X.K "Context")) (na : NoAttr X.K (He.ga X.K "Context") f) (he : PE X e (tD X.K p)) (hb : attributeBase e f X.env (eval e X.env) = eval e X.env := by rfl) : PE X (.Attribute e f pos) (tD X.K (dCFld g p)) := PE.imp (pe_fld he hb) fun σ H Q x => by
  obtain ⟨ρ, F, O, P, er, ho, hp, k⟩ := x
  refine ⟨ρ, F, O, _, er, ho, hp, fun d O1 v F1 H1 q1 s1 r1 => ?_⟩
  obtain ⟨a, r, cap, tr, ra, rfl, h1, hp⟩ := q1
  cases r1
  obtain ⟨_, o, h2, dx, rv, atr, ara, rfl, h3, h3a, h3b⟩ := s1.hold.own a _ h1
  obtain ⟨v, h4, h5⟩ := hg F1 r cap tr ra atr ara rv h3 h3a h3b
  exact ⟨a, _, dx, _, v, rfl, h2, cl, na, h4, k _ O1 _ F1 H1 hp s1 h5⟩
end
theorem f_crules {K : PySem.W.Frag} : RCFld K "rules" fun r _ _ _ => .rul r := fun F r cap trp flg tr ra rv h h1 h2 => ⟨_, rfl, h⟩
theorem f_craised {K : PySem.W.Frag} : RCFld K "raised" fun _ _ _ flg => .lst (flg.map D.str) := fun F r cap trp flg tr ra rv h h1 h2 => ⟨_, rfl, h2⟩
theorem f_ctrapped {K : PySem.W.Frag} : RCFld K "trapped" fun _ _ trp _ => .lst (trp.map D.str) := fun F r cap trp flg tr ra rv h h1 h2 => ⟨_, rfl, h1⟩
theorem f_cprec {K : PySem.W.Frag} : RCFld K "prec" fun r _ _ _ => .int r.prec := fun F r cap trp flg tr ra rv h h1 h2 => ⟨_, rfl, .int _⟩
theorem f_crounding {K : PySem.W.Frag} : RCFld K "rounding" fun r _ _ _ => .str r.rnd := fun F r cap trp flg tr ra rv h h1 h2 => ⟨_, rfl, .str _⟩
theorem f_cemin {K : PySem.W.Frag} : RCFld K "emin" fun r _ _ _ => .int r.emin := fun F r cap trp flg tr ra rv h h1 h2 => ⟨_, rfl, .int _⟩
theorem f_cemax {K : PySem.W.Frag} : RCFld K "emax" fun r _ _ _ => .int r.emax := fun F r cap trp flg tr ra rv h h1 h2 => ⟨_, rfl, .int _⟩
theorem f_cclamp {K : PySem.W.Frag} : RCFld K "clamp" fun r _ _ _ => .int r.clamp := fun F r cap trp flg tr ra rv h h1 h2 => ⟨_, rfl, .int _⟩
theorem f_ccapitals {K : PySem.W.Frag} : RCFld K "capitals" fun _ cap _ _ => .int cap := fun F r cap trp flg tr ra rv h h1 h2 => ⟨_, rfl, .int _⟩
/-- a method of a context -/
def dCMeth (g : List D → Ow → DK → Prop) (p : DE) (q : DA) : DE := fun ρ O P => p ρ O fun d O1 => ∃ a r cap tr ra, d = .ref a ∧ O1 a = some (.ctx r cap tr ra) ∧ q ρ O1 fun ds O2 => g (.ref a :: ds) O2 P
section
variable {X : Cx} {k : Nat} {f : Addr} {fd : FuncData} {ps : List Str} {g : List D → Ow → DK → Prop} {m : Str} {pos apos : Pos} {o e : Expr} {es : List Expr} {p : DE} {q : DA}
def RCtx (m : Str) : Prop := ∀ (tr ra : Addr) (r : Ru) (cap : Int) (rv : V), (ctxF tr ra r cap rv).lookup m = none
theorem rc_ctx {m : Str} (h : ∀ tr ra r cap rv, (ctxF tr ra r cap rv).lookup m = none) : RCtx m := h
theorem cmeth_imp {K : PySem.W.Frag} {E : XK} (hi : RCtx m) : ∀ σ H Q, tD K (dCMeth g p q) σ H Q → tMeth (He.ga K "Context") m (spP K g) [] E (tD K p) (tA K q) σ H Q := fun σ H Q x => by
  obtain ⟨ρ, F, O, P, er, ho, hp, k⟩ := x
  refine ⟨ρ, F, O, _, er, ho, hp, fun d O1 v F1 H1 q1 s1 r1 => ?_⟩
  obtain ⟨a, r, cap, tr, ra, rfl, h1, hp⟩ := q1
  cases r1
  obtain ⟨_, ob, h2, dx, rv, atr, ara, rfl, h3, _⟩ := s1.hold.own a _ h1
  refine ⟨a, dx, _, rfl, h2, hi .., ρ, F1, O1, _, er.mono s1.same, s1.hold, hp, fun ds O2 vs F2 H2 q2 s2 r2 => ?_⟩
  exact ⟨.ref a :: ds, F2, O2, P, by rw [List.append_nil]; exact .cons (.ref a) r2, s2.hold, q2, k.st (s1.tr s2)⟩
theorem cmeth0_imp {K : PySem.W.Frag} {E : XK} (hi : RCtx m) : ∀ σ H Q, tD K (dCMeth g p dNil) σ H Q → tMeth (He.ga K "Context") m (spP K g) [] E (tD K p) tNil σ H Q := fun σ H Q x => by
  obtain ⟨ρ, F, O, P, er, ho, hp, k⟩ := x
  refine ⟨ρ, F, O, _, er, ho, hp, fun d O1 v F1 H1 q1 s1 r1 => ?_⟩
  obtain ⟨a, r, cap, tr, ra, rfl, h1, hp⟩ := q1
  cases r1
  obtain ⟨_, ob, h2, dx, rv, atr, ara, rfl, h3, _⟩ := s1.hold.own a _ h1
  exact ⟨a, dx, _, rfl, h2, hi .., [.ref a], F1, O1, P, .cons (.ref a) .nil, s1.hold, hp, k.st s1⟩
theorem q_cmeth {pl : Sem Bool} (hi : RCtx m) (he : PE X o (tD X.K p)) (c : Cls X.K (He.ga X.K "Context")) (hm : Meth X.K (He.ga X.K "Context") m f) (F : FnOk X.prog X.w X.K X.mg X.base CX0 k f fd ps (spP X.K g)) (hr : Room k X.A) (hb : Binds X.K fd ps []) (ha : PA X (e :: es) (tA X.K q))
    (hst : starEach (e :: es) X.env = (false, eval e X.env) :: starEach es X.env := by rfl) (hpl : (backTo pos (starEach es X.env)).any (·.1) = false := by rfl)
    (ht : eval (.Call (.Attribute o m apos) (e :: es) [] pos) X.env = (do
      let ov ← eval o X.env
      standAt apos.atName
      let (f, first) ← holding [ov] (getMethod ov m pl)
      callWith pos f first (backTo pos (starEach (e :: es) X.env)) (backToKw pos (keywordEach [] X.env))) := by rfl) :
    PE X (.Call (.Attribute o m apos) (e :: es) [] pos) (tD X.K (dCMeth g p q)) := PE.imp (pe_meth he c hm F hr hb .nil (E := E0) (fun _ _ _ _ _ _ _ z => False.elim z) ha hst hpl ht) (cmeth_imp hi)
theorem q_cmeth0 {pl : Sem Bool} (hi : RCtx m) (he : PE X o (tD X.K p)) (c : Cls X.K (He.ga X.K "Context")) (hm : Meth X.K (He.ga X.K "Context") m f) (F : FnOk X.prog X.w X.K X.mg X.base CX0 k f fd ps (spP X.K g)) (hr : Room k X.A) (hb : Binds X.K fd ps [])
    (ht : eval (.Call (.Attribute o m apos) [] [] pos) X.env = (do
      let ov ← eval o X.env
      standAt apos.atName
      let (f, first) ← holding [ov] (getMethod ov m pl)
      callWith pos f first (backTo pos (starEach [] X.env)) (backToKw pos (keywordEach [] X.env))) := by rfl) :
    PE X (.Call (.Attribute o m apos) [] [] pos) (tD X.K (dCMeth g p dNil)) := PE.imp (pe_meth0 he c hm F hr hb .nil (E := E0) (fun _ _ _ _ _ _ _ z => False.elim z) ht) (cmeth0_imp hi)
end
/-! ### x in T, T a tuple of the module -/
def dInG (xs : List D) (p : DE) : DE := fun ρ O P => p ρ O fun d O1 => fltD d = true ∧ P (.bl (inD d xs)) O1
def dNiG (xs : List D) (p : DE) : DE := fun ρ O P => p ρ O fun d O1 => fltD d = true ∧ P (.bl (!inD d xs)) O1
def vD : V → D
  | .int i => .int i
  | .str z => .str z
  | .bl b => .bl b
  | _ => .non
theorem reps_vD {K : PySem.W.Frag} {F : Hp} : ∀ {vs : List V}, vs.all flatV = true → Reps K F vs (vs.map vD) ∧ (vs.map vD).all fltD = true
  | [], _ => ⟨.nil, rfl⟩
  | v :: vs, h => by
    rw [List.all_cons] at h
    obtain ⟨h1, h2⟩ := Bool.and_eq_true_iff.mp h
    obtain ⟨q1, q2⟩ := reps_vD (K := K) (F := F) h2
    cases v <;> first | cases h1 | skip
    all_goals refine ⟨.cons ?_ q1, ?_⟩
    all_goals first | exact .non | exact .int _ | exact .str _ | exact .bl _ | (rw [List.map_cons, List.all_cons, q2]; rfl)
section
variable {X : Cx} {e : Expr} {pe : DE} {x : Str} {p pos : Pos} {a : Addr} {xs : List V}
theorem q_inG (he : PE X e (tD X.K pe)) (hg : Gl X x) (hm : X.mg x = some (.ref a)) (hx : ∀ H, SqT X.K H a xs) (hf : xs.all flatV = true := by rfl) (hd : (x == ("__debug__" : Str)) = false := by decide) : PE X (.Compare e [.In] [.Name x p] pos) (tD X.K (dInG (xs.map vD) pe)) := PE.imp (pe_inG he hg hm hx hf hd) fun σ H Q z => by
  obtain ⟨ρ, F, O, P, er, ho, hp, k⟩ := z
  refine ⟨ρ, F, O, _, er, ho, hp, fun d O1 v F1 H1 q1 s1 r1 => ?_⟩
  obtain ⟨h1, h2⟩ := reps_vD (K := X.K) (F := F1) hf
  refine ⟨flt_of r1 q1.1, ?_⟩
  rw [in_of r1 q1.1 h1 h2]
  exact k _ O1 _ F1 H1 q1.2 s1 (.bl _)
theorem q_niG (he : PE X e (tD X.K pe)) (hg : Gl X x) (hm : X.mg x = some (.ref a)) (hx : ∀ H, SqT X.K H a xs) (hf : xs.all flatV = true := by rfl) (hd : (x == ("__debug__" : Str)) = false := by decide) : PE X (.Compare e [.NotIn] [.Name x p] pos) (tD X.K (dNiG (xs.map vD) pe)) := PE.imp (pe_niG he hg hm hx hf hd) fun σ H Q z => by
  obtain ⟨ρ, F, O, P, er, ho, hp, k⟩ := z
  refine ⟨ρ, F, O, _, er, ho, hp, fun d O1 v F1 H1 q1 s1 r1 => ?_⟩
  obtain ⟨h1, h2⟩ := reps_vD (K := X.K) (F := F1) hf
  refine ⟨flt_of r1 q1.1, ?_⟩
  rw [in_of r1 q1.1 h1 h2]
  exact k _ O1 _ F1 H1 q1.2 s1 (.bl _)
def dInGT (xs : List D) (p : DE) : DT := fun ρ O P => p ρ O fun d O1 => fltD d = true ∧ P (inD d xs) O1
def dNiGT (xs : List D) (p : DE) : DT := fun ρ O P => p ρ O fun d O1 => fltD d = true ∧ P (!inD d xs) O1
theorem qt_inG (he : PE X e (tD X.K pe)) (hg : Gl X x) (hm : X.mg x = some (.ref a)) (hx : ∀ H, SqT X.K H a xs) (hf : xs.all flatV = true := by rfl) (hd : (x == ("__debug__" : Str)) = false := by decide) : PT X (.Compare e [.In] [.Name x p] pos) (tT X.K (dInGT (xs.map vD) pe)) := PT.imp (pt_inG he hg hm hx hf hd) fun σ H Q z => by
  obtain ⟨ρ, F, O, P, er, ho, hp, k⟩ := z
  refine ⟨ρ, F, O, _, er, ho, hp, fun d O1 v F1 H1 q1 s1 r1 => ?_⟩
  obtain ⟨h1, h2⟩ := reps_vD (K := X.K) (F := F1) hf
  refine ⟨flt_of r1 q1.1, ?_⟩
  rw [in_of r1 q1.1 h1 h2]
  exact k _ O1 F1 H1 q1.2 s1
theorem qt_niG (he : PE X e (tD X.K pe)) (hg : Gl X x) (hm : X.mg x = some (.ref a)) (hx : ∀ H, SqT X.K H a xs) (hf : xs.all flatV = true := by rfl) (hd : (x == ("__debug__" : Str)) = false := by decide) : PT X (.Compare e [.NotIn] [.Name x p] pos) (tT X.K (dNiGT (xs.map vD) pe)) := PT.imp (pt_niG he hg hm hx hf hd) fun σ H Q z => by
  obtain ⟨ρ, F, O, P, er, ho, hp, k⟩ := z
  refine ⟨ρ, F, O, _, er, ho, hp, fun d O1 v F1 H1 q1 s1 r1 => ?_⟩
  obtain ⟨h1, h2⟩ := reps_vD (K := X.K) (F := F1) hf
  refine ⟨flt_of r1 q1.1, ?_⟩
  rw [in_of r1 q1.1 h1 h2]
  exact k _ O1 F1 H1 q1.2 s1
end


/-! ### isinstance(x, (list, tuple)); all of bools -/
def fIsLT : List D → Ow → DK → Prop := fun ds O P => ∃ d xs, ds = [d, .tup [.ty "list", .ty "tuple"]] ∧ (d = .tup xs ∨ d = .lst xs) ∧ P (.bl true) O
def rIsiU (K : PySem.W.Frag) : List V → Hp → VK → Prop := fun xs H Q => rIsiT K xs H Q ∨ rIsiK K xs H Q
theorem call_isiU {X : Cx} : CallR X (.builtin "isinstance") (rIsiU X.K) := fun pins s σ H xs us Q I r h => h.elim (call_isiT pins s σ H xs us Q I r) (call_isiK pins s σ H xs us Q I r)
theorem c_isLT {K : PySem.W.Frag} : RCl K (rIsiU K) fIsLT := fun F O H vs ds P Q r ho h k => by
  obtain ⟨d, xs, rfl, hd, hp⟩ := h
  obtain ⟨v, u, rfl, q1, q2⟩ := r.two
  have kk : ∃ t, TyX K H v t ∧ PySem.W.kitAny K t [.type "list", .type "tuple"] = some true := by
    rcases hd with rfl | rfl
    · cases q1 with
      | tup q1 _ => exact ⟨_, q1.ty ho.sub, kTupLT⟩
    · cases q1 with
      | lst q1 _ => exact ⟨_, .base (.lst (ho.sub _ _ q1)), kLstLT⟩
  obtain ⟨t, kt, ka⟩ := kk
  cases q2 with
  | tup q2 q3 =>
    obtain ⟨a, b, rfl, q4, q5⟩ := q3.two
    cases q4
    cases q5
    rcases q2 with q2 | ⟨o, its, n, h1, h2, h3, h4, h5⟩
    · exact .inl ⟨_, _, _, _, [.type "list", .type "tuple"], true, rfl, ho.sub _ _ q2, .cons (.ty _) (.cons (.ty _) .nil), kt, ka, k.now ho (.bl _) hp⟩
    · have e := ClsV.all (.cons (.ty "list") (.cons (.ty "tuple") .nil)) h5
      obtain ⟨oc, od, dt, sl⟩ := o
      have h2 : oc = .type "tuple" := h2
      have h3 : dt = .seq its n := h3
      subst h2 h3
      have e2 : its = ([.type "list", .type "tuple"] : List Value).toArray := by rw [← e]
      subst e2
      exact .inr ⟨_, _, _, _, _, _, _, true, rfl, h1, kt, ka, k.now ho (.bl _) hp⟩
def fAll : List D → Ow → DK → Prop := fun ds O P => ∃ bs : List Bool, ds = [.lst (bs.map D.bl)] ∧ P (.bl (bs.all id)) O
theorem Reps.bls {K : PySem.W.Frag} {F : Hp} : ∀ {vs : List V} {zs : List Bool}, Reps K F vs (zs.map D.bl) → vs = zs.map V.bl
  | _, [], .nil => rfl
  | _, _ :: _, .cons (.bl z) t => by rw [Reps.bls t]; rfl
theorem c_all {K : PySem.W.Frag} : RCl K (rAll K) fAll := fun F O H vs ds P Q r ho h k => by
  obtain ⟨bs, rfl, hp⟩ := h
  obtain ⟨v, rfl, q⟩ := r.one
  cases q with
  | lst q1 q2 =>
    have e := q2.bls
    subst e
    exact ⟨_, bs, rfl, SqL.of (ho.sub _ _ q1), k.now ho (.bl _) hp⟩
/-! ### a word between two statements -/
def dCutS (p q : DS) : DS := fun G ρ O => ∃ M : DEnv → Ow → Prop, p { G with nx := M } ρ O ∧ ∀ ρ' O', M ρ' O' → q G ρ' O'
theorem qss_cut {X : Cx} {st : Stmt} {rest : List Stmt} {p q : DS} (h1 : PS X st (sX X.K W p)) (h2 : PSs X rest (sX X.K W q)) : PSs X (st :: rest) (sX X.K W (dCutS p q)) := PSs.imp (Evl.pss_cut h1 h2) fun E σ H x => by
  obtain ⟨ρ, F, O, G, er, ho, ⟨M, hp, hq⟩, k⟩ := x
  refine ⟨fun σ1 H1 => ∃ ρ1 F1 O1, M ρ1 O1 ∧ Stp X.K F O H F1 O1 H1 ∧ EnvR X.K F1 σ1 ρ1, ⟨ρ, F, O, { G with nx := M }, er, ho, hp, ⟨fun ρ1 O1 σ1 F1 H1 q1 s1 er1 => ⟨ρ1, F1, O1, q1, s1, er1⟩, k.rt, k.bk, k.ct, k.ex⟩⟩, ?_⟩
  rintro σ1 H1 ⟨ρ1, F1, O1, q1, s1, er1⟩
  exact ⟨ρ1, F1, O1, G, er1, s1.hold, hq ρ1 O1 q1, k.st s1⟩
/-! ### list * int(bool) -/
def optL (b : Bool) (xs : List D) : List D := if b = true then xs else []
def fRepB : D → D → Ow → DK → Prop := fun d1 d2 O P => ∃ xs j, d1 = .lst xs ∧ d2 = .int j ∧ (j = 0 ∨ j = 1) ∧ xs.length ≤ 1000 ∧ P (.lst (optL (decide (j = 1)) xs)) O
theorem r_repB {K : PySem.W.Frag} : ROp K rRep fRepB := fun F O H v1 d1 v2 d2 P Q r1 r2 ho h k => by
  obtain ⟨xs, j, rfl, rfl, hj, hl, hp⟩ := h
  have hz : (100000 : Nat) ≤ sizeLine := by decide
  refine r_repL F O H v1 _ v2 _ P Q r1 r2 ho ⟨xs, j, rfl, rfl, ⟨by omega, by omega, ?_⟩, ?_⟩ k
  · rcases hj with rfl | rfl
    · simp
    · simp
      omega
  · rcases hj with rfl | rfl
    · exact hp
    · have e : (List.replicate (Int.toNat 1) xs).flatten = xs := by simp
      rw [e]
      exact hp
theorem ite01_or {b : Bool} : ((if b = true then (1 : Int) else 0) = 0 ∨ (if b = true then (1 : Int) else 0) = 1) = True := by cases b <;> simp
theorem ite01_dec {b : Bool} : decide ((if b = true then (1 : Int) else 0) = 1) = b := by cases b <;> rfl
theorem optL_len {b : Bool} {xs : List D} : (optL b xs).length ≤ xs.length := by
  unfold optL
  split <;> simp
theorem optL_one {b : Bool} {x : D} : (optL b [x]).length ≤ 1 := optL_len
end Tw

namespace Tw
open PySem L2
/-! ### digits -/
def ndg (n : Nat) : Nat := (Nat.toDigits 10 n).length
theorem ndg_pos (n : Nat) : 1 ≤ ndg n := PyProof.Rows.tDigits_len_ge 10 n
theorem ndg_le {n k : Nat} (hk : 1 ≤ k) (h : n < 10 ^ k) : ndg n ≤ k := PyProof.Rows.digits10_le hk h
theorem ndg_ge {n k : Nat} (h : 10 ^ k ≤ n) : k + 1 ≤ ndg n := PyProof.Rows.digits10_ge h
theorem lt_ndg (n : Nat) : n < 10 ^ ndg n := by
  rcases Nat.lt_or_ge n (10 ^ ndg n) with h | h
  · exact h
  · have := ndg_ge h
    omega
theorem ndg_low {n : Nat} (hn : 0 < n) : 10 ^ (ndg n - 1) ≤ n := by
  rcases Nat.lt_or_ge n (10 ^ (ndg n - 1)) with h | h
  · by_cases h1 : 1 ≤ ndg n - 1
    · have := ndg_le h1 h
      have := ndg_pos n
      omega
    · have e : ndg n - 1 = 0 := by omega
      rw [e] at h
      simp at h
      omega
  · exact h
theorem ndg_eq {n k : Nat} (h1 : 10 ^ k ≤ n) (h2 : n < 10 ^ (k + 1)) : ndg n = k + 1 := by
  have a := ndg_ge h1
  have b := ndg_le (by omega) h2
  omega
theorem ndg_zero : ndg 0 = 1 := rfl
theorem ndg_small {n : Nat} (h : n < 10) : ndg n = 1 := by
  have a := ndg_le (n := n) (k := 1) (by omega) (by simpa using h)
  have b := ndg_pos n
  omega
/-- the number of digits of an integer from 0 on -/
def nd (c : Int) : Int := (ndg c.toNat : Int)
theorem nd_pos (c : Int) : 1 ≤ nd c := by
  have := ndg_pos c.toNat
  unfold nd
  omega
theorem nd_nat (n : Nat) : nd (n : Int) = (ndg n : Int) := by
  unfold nd
  rw [Int.toNat_natCast]
/-- len(str(n)) -/
theorem len_str (n : Nat) : (Str.ofString (toString (n : Int))).length = ndg n := by
  have e : Str.ofString (toString ((n : Nat) : Int)) = ⟨((Nat.toDigits 10 n).map Char.toNat).toArray⟩ := PyProof.Rows.text_ofNat n
  rw [e]
  show (((Nat.toDigits 10 n).map Char.toNat).toArray).size = _
  simp [ndg]
theorem ndg_div64 {n : Nat} (h : 10 ^ 64 ≤ n) : ndg (n / 10 ^ 64) + 64 = ndg n := by
  have hp : (0 : Nat) < 10 ^ 64 := Nat.pow_pos (by decide)
  have hq : 0 < n / 10 ^ 64 := Nat.div_pos h hp
  have l1 := ndg_low hq
  have l2 := lt_ndg (n / 10 ^ 64)
  have p1 := ndg_pos (n / 10 ^ 64)
  generalize hk : ndg (n / 10 ^ 64) = k at l1 l2 p1
  have e : k = (k - 1) + 1 := by omega
  have a : 10 ^ ((k - 1) + 64) ≤ n := by
    rw [Nat.pow_add]
    exact (Nat.le_div_iff_mul_le hp).mp l1
  have b : n < 10 ^ ((k - 1) + 64 + 1) := by
    have : n < 10 ^ k * 10 ^ 64 := (Nat.div_lt_iff_lt_mul hp).mp l2
    rw [← Nat.pow_add] at this
    rw [show k - 1 + 64 + 1 = k + 64 by omega]
    exact this
  have := ndg_eq a b
  omega
theorem log2_10 {n k : Nat} (h : n < 10 ^ k) : n.log2 ≤ 4 * k := by
  by_cases hn : n = 0
  · subst hn
    rw [Nat.log2_zero]
    exact Nat.zero_le _
  · have : n < 2 ^ (4 * k + 1) := by
      have h2 : (10 : Nat) ^ k ≤ (2 ^ 4) ^ k := Nat.pow_le_pow_left (by decide) k
      have h3 : (2 : Nat) ^ (4 * k + 1) = 2 * (2 ^ 4) ^ k := by rw [Nat.pow_succ, Nat.pow_mul, Nat.mul_comm]
      omega
    have := (Nat.log2_lt hn).mpr this
    omega
/-! ### promises of the numbers -/
def g_tens : List D → Ow → DK → Prop := fun ds O P => ∃ i : Int, ds = [.int i] ∧ 0 ≤ i ∧ i ≤ 100000 ∧ P (.int ((10 : Int) ^ i.toNat)) O
def g_count_digits : List D → Ow → DK → Prop := fun ds O P => ∃ c : Int, ds = [.int c] ∧ 0 ≤ c ∧ P (.int (nd c)) O
/-! ### finishing -/
def goesUp (rn : Str) (s left side : Int) : Bool :=
  if rn = "half_up" ∨ rn = "half_down" ∨ rn = "half_even" then decide (0 < side) || (decide (side = 0) && (decide (rn = "half_up") || (decide (rn = "half_even") && decide (left % 2 = 1))))
  else if rn = "05up" then decide (left % 5 = 0)
  else decide (rn = "up") || ((decide (rn = "ceiling") && decide (s = 0)) || (decide (rn = "floor") && decide (s = 1)))
def b2i (b : Bool) : Int := if b = true then 1 else 0
def cutLeft (c cut : Int) : Int := if cut ≤ nd c then c / 10 ^ cut.toNat else 0
def cutInex (c cut : Int) : Bool := if cut ≤ nd c then decide (0 < c % 10 ^ cut.toNat) else decide (0 < c)
def cutSide (c cut : Int) : Int := if cut ≤ nd c then b2i (decide (10 ^ cut.toNat < 2 * (c % 10 ^ cut.toNat))) - b2i (decide (2 * (c % 10 ^ cut.toNat) < 10 ^ cut.toNat)) else -1
def roundL (rn : Str) (s c cut : Int) : Int := if (cutInex c cut && goesUp rn s (cutLeft c cut) (cutSide c cut)) = true then cutLeft c cut + 1 else cutLeft c cut
/-- a result and its conditions -/
structure Out where
  d : D
  ws : List Str
def Out.tup (o : Out) : D := .tup [o.d, .tup (o.ws.map D.str)]
def cfS (s : Int) : Str := if s = 1 then "floor" else "ceiling"
def toInf (r : Ru) (s : Int) : Bool := decide (r.rnd = "up") || (decide (r.rnd = "half_up") || (decide (r.rnd = "half_down") || (decide (r.rnd = "half_even") || decide (r.rnd = cfS s))))
def over (r : Ru) (s : Int) : Out := ⟨.dec (if toInf r s = true then ⟨s, 0, .inf⟩ else ⟨s, 10 ^ r.prec.toNat - 1, .fin r.etop⟩), ["Overflow", "Inexact", "Rounded"]⟩
def cutW (inex small zero : Bool) : List Str := (if inex = true then (["Rounded", "Inexact"] : List Str) else ["Rounded"]) ++ ((if small = true then (if inex = true then (["Subnormal", "Underflow"] : List Str) else ["Subnormal"]) else []) ++ (if zero = true then (["Clamped"] : List Str) else []))
def finCut (r : Ru) (s c e least : Int) : Out :=
  if nd (roundL r.rnd s c (least - e)) > r.prec then
    if least + 1 > r.etop then over r s
    else ⟨.dec ⟨s, roundL r.rnd s c (least - e) / 10, .fin (least + 1)⟩, cutW (cutInex c (least - e)) (decide (e + nd c - 1 < r.emin)) (decide (roundL r.rnd s c (least - e) / 10 = 0))⟩
  else ⟨.dec ⟨s, roundL r.rnd s c (least - e), .fin least⟩, cutW (cutInex c (least - e)) (decide (e + nd c - 1 < r.emin)) (decide (roundL r.rnd s c (least - e) = 0))⟩
def finZ (r : Ru) (s e : Int) : Out := ⟨.dec ⟨s, 0, .fin (zExp r e)⟩, zWords r e⟩
def finP (r : Ru) (s c e : Int) : Out :=
  if c = 0 then finZ r s e
  else if e + nd c - 1 > r.emax then over r s
  else if e < max r.etiny (e + nd c - 1 - r.prec + 1) then finCut r s c e (max r.etiny (e + nd c - 1 - r.prec + 1))
  else if r.clamp = 1 ∧ r.etop < e then ⟨.dec ⟨s, c * 10 ^ (e - r.etop).toNat, .fin r.etop⟩, (if e + nd c - 1 < r.emin then (["Subnormal"] : List Str) else []) ++ (["Clamped"] : List Str)⟩
  else ⟨.dec ⟨s, c, .fin e⟩, if e + nd c - 1 < r.emin then ["Subnormal"] else []⟩
/-- what a context and a coefficient must be for the numbers to be made out: within so many digits -/
structure Fits (r : Ru) (c : Int) : Prop where
  p1 : 1 ≤ r.prec
  p2 : r.prec ≤ 30000
  l : r.emin ≤ 0
  h : 0 ≤ r.emax
  c0 : 0 ≤ c
  c1 : nd c ≤ 30000
  dv : ∀ k : Nat, (k : Int) ≤ nd c → CDivP c (10 ^ k)
theorem mulW_of {a b : Int} {m n : Nat} (ha : a.natAbs < 10 ^ m) (hb : b.natAbs < 10 ^ n) (h : m + n ≤ 240000) : CMulW a b := by
  have h1 := log2_10 ha
  have h2 := log2_10 hb
  show _ + _ < 1000000
  omega
theorem pow10_pos (n : Nat) : (0 : Int) < 10 ^ n := Int.pow_pos (by decide)
theorem abs10 (n : Nat) : ((10 : Int) ^ n).natAbs = 10 ^ n := by
  have h : (10 : Int) ^ n = ((10 ^ n : Nat) : Int) := by simp
  rw [h, Int.natAbs_natCast]
theorem lt_nd {c : Int} (h : 0 ≤ c) : c < 10 ^ (nd c).toNat := by
  obtain ⟨n, rfl⟩ : ∃ n : Nat, c = (n : Int) := ⟨c.toNat, by omega⟩
  rw [nd_nat, Int.toNat_natCast]
  have h : (10 : Int) ^ ndg n = ((10 ^ ndg n : Nat) : Int) := by simp
  rw [h]
  exact Int.ofNat_lt.mpr (lt_ndg n)
theorem nd_low {c : Int} (h : 0 < c) : 10 ^ (nd c - 1).toNat ≤ c := by
  obtain ⟨n, rfl⟩ : ∃ n : Nat, c = (n : Int) := ⟨c.toNat, by omega⟩
  have hp := ndg_pos n
  rw [nd_nat, show ((ndg n : Int) - 1).toNat = ndg n - 1 by omega]
  have h2 : (10 : Int) ^ (ndg n - 1) = ((10 ^ (ndg n - 1) : Nat) : Int) := by simp
  rw [h2]
  exact Int.ofNat_le.mpr (ndg_low (by omega))
theorem nd_eq {c : Int} {k : Nat} (h1 : 10 ^ k ≤ c) (h2 : c < 10 ^ (k + 1)) : nd c = k + 1 := by
  have hp := pow10_pos k
  obtain ⟨n, rfl⟩ : ∃ n : Nat, c = (n : Int) := ⟨c.toNat, by omega⟩
  have e1 : (10 : Int) ^ k = ((10 ^ k : Nat) : Int) := by simp
  have e2 : (10 : Int) ^ (k + 1) = ((10 ^ (k + 1) : Nat) : Int) := by simp
  rw [e1] at h1
  rw [e2] at h2
  rw [nd_nat, ndg_eq (Int.ofNat_le.mp h1) (Int.ofNat_lt.mp h2)]
  rfl
theorem nd_zero : nd 0 = 1 := rfl
theorem natAbs_lt {c : Int} {n : Nat} (h0 : 0 ≤ c) (h : c < 10 ^ n) : c.natAbs < 10 ^ n := by
  have e1 : (10 : Int) ^ n = ((10 ^ n : Nat) : Int) := by simp
  rw [e1] at h
  omega
theorem Fits.lt {r : Ru} {c : Int} (f : Fits r c) : c.natAbs < 10 ^ 30000 := by
  have h1 := f.c1
  have h3 := natAbs_lt f.c0 (lt_nd f.c0)
  exact Nat.lt_of_lt_of_le h3 (Nat.pow_le_pow_right (by decide) (by omega))
theorem emod_le_self {c u : Int} (h : 0 ≤ c) (hu : 0 < u) : c % u ≤ c := by
  have h1 := Int.emod_add_mul_ediv c u
  have h2 := Int.mul_nonneg (Int.le_of_lt hu) (Int.ediv_nonneg h (Int.le_of_lt hu))
  omega
theorem ite_b {b : Bool} {A B : Prop} (h1 : b = true → A) (h2 : b = false → B) : if b = true then A else B := by
  cases b with
  | true => exact iteT (h1 rfl)
  | false => exact iteF (h2 rfl)
theorem cutLeft_nonneg {c : Int} (cut : Int) (h : 0 ≤ c) : 0 ≤ cutLeft c cut := by
  unfold cutLeft
  split
  · exact Int.ediv_nonneg h (Int.le_of_lt (pow10_pos _))
  · exact Int.le_refl _
theorem roundL_nonneg {rn : Str} {s c cut : Int} (h : 0 ≤ c) : 0 ≤ roundL rn s c cut := by
  have := cutLeft_nonneg cut h
  unfold roundL
  split <;> omega
theorem okF {s c e : Int} (hs : s = 0 ∨ s = 1) (hc : 0 ≤ c) : Dc.Ok ⟨s, c, .fin e⟩ := ⟨hs, hc, fun h => nomatch h⟩
def g_goes_up : List D → Ow → DK → Prop := fun ds O P => ∃ rn s left side, ds = [.str rn, .int s, .int left, .int side] ∧ P (.bl (goesUp rn s left side)) O
def g_rounded_parts : List D → Ow → DK → Prop := fun ds O P => ∃ r rn s c cut, ds = [.str rn, .int s, .int c, .int cut] ∧ Fits r c ∧ 0 ≤ cut ∧ P (.tup [.int (roundL rn s c cut), .bl (cutInex c cut)]) O
def g_overflow : List D → Ow → DK → Prop := fun ds O P => ∃ r s, ds = [.rul r, .int s] ∧ 1 ≤ r.prec ∧ r.prec ≤ 30000 ∧ (s = 0 ∨ s = 1) ∧ P (over r s).tup O
def g_finish_zero : List D → Ow → DK → Prop := fun ds O P => ∃ r s e, ds = [.rul r, .int s, .int e] ∧ (s = 0 ∨ s = 1) ∧ P (finZ r s e).tup O
def g_finish_cut : List D → Ow → DK → Prop := fun ds O P => ∃ r s c e least, ds = [.rul r, .int s, .int c, .int e, .int least] ∧ Fits r c ∧ (s = 0 ∨ s = 1) ∧ e ≤ least ∧ P (finCut r s c e least).tup O
def g_finish_parts : List D → Ow → DK → Prop := fun ds O P => ∃ r s c e, ds = [.rul r, .int s, .int c, .int e] ∧ Fits r c ∧ (s = 0 ∨ s = 1) ∧ P (finP r s c e).tup O
def g_etiny : List D → Ow → DK → Prop := fun ds O P => ∃ r, ds = [.rul r] ∧ P (.int r.etiny) O
def g_etop : List D → Ow → DK → Prop := fun ds O P => ∃ r, ds = [.rul r] ∧ P (.int r.etop) O
def g_infinity : List D → Ow → DK → Prop := fun ds O P => ∃ s, ds = [.int s] ∧ (s = 0 ∨ s = 1) ∧ P (.dec ⟨s, 0, .inf⟩) O
def g_plain_nan : List D → Ow → DK → Prop := fun ds O P => ds = [] ∧ P (.dec ⟨0, 0, .qn⟩) O
end Tw

namespace Tw
open PySem L2
/-! ### NaNs, plus, minus, absolute -/
def kept (r : Ru) (c : Int) : Int := if nd c ≤ r.prec - r.clamp then c else c % 10 ^ (r.prec - r.clamp).toNat
def mFinish (r : Ru) (a : Dc) : Out := match a.e with
  | .fin n => finP r a.s a.c n
  | .inf => ⟨.dec a, []⟩
  | _ => ⟨.dec ⟨a.s, kept r a.c, a.e⟩, []⟩
/-- a Decimal within what is made out -/
structure FitD (r : Ru) (a : Dc) : Prop where
  ok : a.Ok
  f : Fits r a.c
  c0 : 0 ≤ r.clamp
  c1 : r.clamp ≤ 1
def nanOf (r : Ru) (as : List Dc) : Option Out := match as.filter (fun a => a.e.isNan) with
  | [] => none
  | x :: xs => some (match (x :: xs).filter (fun a => a.e.isSn) with
    | [] => ⟨.dec ⟨x.s, kept r x.c, .qn⟩, []⟩
    | y :: _ => ⟨.dec ⟨y.s, kept r y.c, .qn⟩, ["InvalidOperation"]⟩)
def optT : Option Out → D
  | none => .non
  | some o => o.tup
theorem optT_none : optT none = .non := rfl
theorem optT_some {o : Out} : optT (some o) = .tup [o.d, .tup (o.ws.map D.str)] := rfl
def isZ (a : Dc) : Bool := a.e.isFin && decide (a.c = 0)
def withSign (r : Ru) (a : Dc) (s : Int) : Out := mFinish r ⟨if (isZ a && !decide (r.rnd = "floor")) = true then 0 else s, a.c, a.e⟩
def mUn (f : Int → Int) (r : Ru) (a : Dc) : Out := match nanOf r [a] with
  | some o => o
  | none => withSign r a (f a.s)
def mPlus : Ru → Dc → Out := mUn fun s => s
def mMinus : Ru → Dc → Out := mUn fun s => 1 - s
def mAbs (r : Ru) (a : Dc) : Out := if a.s = 1 then mMinus r a else mPlus r a
def g_kept_digits : List D → Ow → DK → Prop := fun ds O P => ∃ r c, ds = [.rul r, .int c] ∧ Fits r c ∧ 0 ≤ r.clamp ∧ r.clamp ≤ 1 ∧ P (.int (kept r c)) O
def g_finish : List D → Ow → DK → Prop := fun ds O P => ∃ r a, ds = [.rul r, .dec a] ∧ FitD r a ∧ P (mFinish r a).tup O
def g_nan_of : List D → Ow → DK → Prop := fun ds O P => ∃ r as, ds = [.rul r, .lst (as.map D.dec)] ∧ (∀ a ∈ as, FitD r a) ∧ as.length ≤ 1000 ∧ P (optT (nanOf r as)) O
def g_with_sign_sums : List D → Ow → DK → Prop := fun ds O P => ∃ r a s, ds = [.rul r, .dec a, .int s] ∧ FitD r a ∧ (s = 0 ∨ s = 1) ∧ P (withSign r a s).tup O
def g_un (m : Ru → Dc → Out) : List D → Ow → DK → Prop := fun ds O P => ∃ r a, ds = [.rul r, .dec a] ∧ FitD r a ∧ P (m r a).tup O
theorem Fits.mod {r : Ru} {c : Int} (f : Fits r c) (n : Nat) : 0 ≤ c % 10 ^ n := Int.emod_nonneg _ (Int.ne_of_gt (pow10_pos n))
theorem kept_nonneg {r : Ru} {c : Int} (f : Fits r c) : 0 ≤ kept r c := by
  unfold kept
  split
  · exact f.c0
  · exact f.mod _
def decP (p : Dc → Bool) : D → Bool
  | .dec a => p a
  | _ => false
theorem dec_filter (p : Dc → Bool) (as : List Dc) : ((as.map D.dec).filter (decP p)).map id = (as.filter p).map D.dec := by
  rw [List.map_id, List.filter_map]
  rfl
theorem FitD.sg {r : Ru} {a : Dc} (f : FitD r a) {s : Int} (hs : s = 0 ∨ s = 1) : FitD r ⟨s, a.c, a.e⟩ := ⟨⟨hs, f.ok.co, f.ok.inf⟩, f.f, f.c0, f.c1⟩
theorem ex_n' : exOf (D.str "n") = some .qn := by decide +kernel
theorem ex_F' : exOf (D.str "F") = some .inf := by decide +kernel
theorem ex_N' : exOf (D.str "N") = some .sn := by decide +kernel
theorem atI_0 {α : Type} {x : α} {xs : List α} : L2.atI (x :: xs) 0 = some x := by
  unfold L2.atI ixN
  simp
theorem atI_1 {α : Type} {x y : α} {xs : List α} : L2.atI (x :: y :: xs) 1 = some y := by
  unfold L2.atI ixN
  simp
  rw [if_pos (by omega)]
  rfl
theorem atI_2 {α : Type} {x y z : α} {xs : List α} : L2.atI (x :: y :: z :: xs) 2 = some z := by
  unfold L2.atI ixN
  simp
  rw [if_pos (by omega)]
  rfl
/-! ### what is told -/
def sigs (ws : List Str) : List Str := sortS ((dctOf (ws.map fun z => (sigOf z, D.bl true))).map (·.1))
def Out.told (o : Out) : D := .tup [o.d, .tup ((sigs o.ws).map D.str)]
def g_signal_of : List D → Ow → DK → Prop := fun ds O P => ∃ z, ds = [.str z] ∧ P (.str (sigOf z)) O
/-- an operand as data: a Decimal or an int -/
inductive Opd : D → Dc → Prop where
  | dec (a : Dc) : Opd (.dec a) a
  | int (i : Int) : Opd (.int i) ⟨if i < 0 then 1 else 0, i.natAbs, .fin 0⟩
inductive Opds : List D → List Dc → Prop where
  | nil : Opds [] []
  | cons {d : D} {a : Dc} {ds : List D} {as : List Dc} : Opd d a → Opds ds as → Opds (d :: ds) (a :: as)
def opdD : D → D
  | .int i => .dec ⟨if i < 0 then 1 else 0, i.natAbs, .fin 0⟩
  | d => d
theorem Opd.eq {d : D} {a : Dc} (h : Opd d a) : opdD d = .dec a := by cases h <;> rfl
theorem Opds.eq : ∀ {ds : List D} {as : List Dc}, Opds ds as → ds.map opdD = as.map D.dec
  | _, _, .nil => rfl
  | _, _, .cons h r => by rw [List.map_cons, List.map_cons, h.eq, Opds.eq r]
theorem Opds.length : ∀ {ds : List D} {as : List Dc}, Opds ds as → ds.length = as.length
  | _, _, .nil => rfl
  | _, _, .cons _ r => congrArg (· + 1) (Opds.length r)
theorem Opds.mem : ∀ {ds : List D} {as : List Dc}, Opds ds as → ∀ d ∈ ds, ∃ a, Opd d a
  | _, _, .nil, _, h => by cases h
  | _, _, .cons q r, d, h => by
    rcases List.mem_cons.mp h with rfl | h
    · exact ⟨_, q⟩
    · exact Opds.mem r d h
def g_decimal_of : List D → Ow → DK → Prop := fun ds O P => ∃ d a, ds = [d] ∧ Opd d a ∧ P (.dec a) O
def g_check_between : List D → Ow → DK → Prop := fun ds O P => ∃ i lo hi z, ds = [.int i, .int lo, .int hi, .str z] ∧ lo ≤ i ∧ i ≤ hi ∧ P .non O
def orders : List Str := ["InvalidOperation", "DivisionByZero", "Overflow", "Underflow", "Subnormal", "Inexact", "Rounded", "Clamped"]
def ordD : List D := (orders.map V.str).map vD
theorem ordD_in (y : Str) : inD (.str y) ordD = (decide (y = "InvalidOperation") || (decide (y = "DivisionByZero") || (decide (y = "Overflow") || (decide (y = "Underflow") || (decide (y = "Subnormal") || (decide (y = "Inexact") || (decide (y = "Rounded") || decide (y = "Clamped")))))))) := by
  simp only [ordD, orders, List.map_cons, List.map_nil, vD, inD_cons, inD_nil, eqF_str_str, Bool.or_false]
theorem rep_non {K : PySem.W.Frag} {F : Hp} {u : V} (r : Rep K F u .non) : u = .non := by cases r; rfl
def namesS (zs : List Str) : List Str := sortS ((dctOf (zs.map fun z => (z, D.bl true))).map (·.1))
end Tw

namespace Tw
open PySem L2
theorem finP_few (r : Ru) (s c e : Int) : (finP r s c e).ws.length ≤ 5 := by
  unfold finP finZ finCut over cutW zWords
  repeat' split
  all_goals simp
theorem mFinish_few (r : Ru) (a : Dc) : (mFinish r a).ws.length ≤ 5 := by
  unfold mFinish
  split
  · exact finP_few ..
  · simp
  · simp
theorem nanOf_few {r : Ru} {as : List Dc} {o : Out} (h : nanOf r as = some o) : o.ws.length ≤ 1 := by
  unfold nanOf at h
  split at h
  · cases h
  · cases h
    split <;> simp
theorem mUn_few (f : Int → Int) (r : Ru) (a : Dc) : (mUn f r a).ws.length ≤ 5 := by
  unfold mUn
  split
  · rename_i h
    have := nanOf_few h
    omega
  · exact mFinish_few ..
theorem mAbs_few (r : Ru) (a : Dc) : (mAbs r a).ws.length ≤ 5 := by
  unfold mAbs
  split <;> exact mUn_few ..
theorem mPlus_few (r : Ru) (a : Dc) : (mPlus r a).ws.length ≤ 5 := mUn_few ..
theorem mMinus_few (r : Ru) (a : Dc) : (mMinus r a).ws.length ≤ 5 := mUn_few ..
/-! ### products -/
def invO : Out := ⟨.dec ⟨0, 0, .qn⟩, ["InvalidOperation"]⟩
def sgB (a b : Dc) : Int := if a.s = b.s then 0 else 1
def exAdd : Ex4 → Ex4 → Ex4
  | .fin m, .fin n => .fin (m + n)
  | e, _ => e
/-- the exact product of two numbers that are no NaNs; none of infinity and zero -/
def prodX (a b : Dc) : Option Dc := if (a.e.isInf || b.e.isInf) = true then (if (isZ a || isZ b) = true then none else some ⟨sgB a b, 0, .inf⟩) else some ⟨sgB a b, a.c * b.c, exAdd a.e b.e⟩
def optDc : Option Dc → D
  | none => .non
  | some a => .dec a
theorem optDc_none : optDc none = .non := rfl
theorem optDc_some {a : Dc} : optDc (some a) = .dec a := rfl
def mMul (r : Ru) (a b : Dc) : Out := match nanOf r [a, b] with
  | some o => o
  | none => match prodX a b with
    | none => invO
    | some p => mFinish r p
structure FitMul (r : Ru) (a b : Dc) : Prop where
  fa : FitD r a
  fb : FitD r b
  p : Fits r (a.c * b.c)
  m : CMulW a.c b.c
theorem mMul_few (r : Ru) (a b : Dc) : (mMul r a b).ws.length ≤ 5 := by
  unfold mMul
  split
  · rename_i h
    have := nanOf_few h
    omega
  · split
    · show 1 ≤ 5
      decide
    · exact mFinish_few ..
def g_invalid : List D → Ow → DK → Prop := fun ds O P => ∃ z, ds = [.str z] ∧ P (.tup [.dec ⟨0, 0, .qn⟩, .tup [.str z]]) O
def g_sign_of_both : List D → Ow → DK → Prop := fun ds O P => ∃ a b, ds = [.dec a, .dec b] ∧ P (.int (sgB a b)) O
def g_exact_product : List D → Ow → DK → Prop := fun ds O P => ∃ a b, ds = [.dec a, .dec b] ∧ a.e.isNan = false ∧ b.e.isNan = false ∧ CMulW a.c b.c ∧ a.Ok ∧ b.Ok ∧ P (optDc (prodX a b)) O
def g_bin (m : Ru → Dc → Dc → Out) (Fit : Ru → Dc → Dc → Prop) : List D → Ow → DK → Prop := fun ds O P => ∃ r a b, ds = [.rul r, .dec a, .dec b] ∧ Fit r a b ∧ P (m r a b).tup O
theorem nanOf_none {r : Ru} {as : List Dc} (h : nanOf r as = none) : ∀ a ∈ as, a.e.isNan = false := by
  intro a ha
  unfold nanOf at h
  split at h
  · rename_i e
    cases hn : a.e.isNan with
    | false => rfl
    | true =>
      have hm : a ∈ as.filter (fun a => a.e.isNan) := List.mem_filter.mpr ⟨ha, hn⟩
      rw [e] at hm
      cases hm
  · cases h
theorem Fits.zero {r : Ru} {c : Int} (f : Fits r c) : Fits r 0 := ⟨f.p1, f.p2, f.l, f.h, Int.le_refl _, by rw [nd_zero]; decide, fun k _ => L2.divp_ok (pow10_pos k) (by show 0 ≤ _; exact Nat.zero_le _)⟩
theorem sgB_or (a b : Dc) : sgB a b = 0 ∨ sgB a b = 1 := by
  unfold sgB
  split <;> simp
theorem prodX_fit {r : Ru} {a b p : Dc} (f : FitMul r a b) (na : a.e.isNan = false) (nb : b.e.isNan = false) (h : prodX a b = some p) : FitD r p := by
  unfold prodX at h
  split at h
  · split at h
    · cases h
    · cases h
      exact ⟨⟨sgB_or a b, Int.le_refl _, fun _ => rfl⟩, f.p.zero, f.fa.c0, f.fa.c1⟩
  · cases h
    rename_i hi
    refine ⟨⟨sgB_or a b, f.p.c0, fun h => ?_⟩, f.p, f.fa.c0, f.fa.c1⟩
    cases ea : a.e <;> cases eb : b.e <;> simp_all [exAdd, Ex4.isInf, Ex4.isNan]
end Tw

namespace Tw
open PySem L2
theorem iteP {p : Prop} [Decidable p] {A B : Prop} (h1 : p → A) (h2 : ¬ p → B) : if p then A else B := by
  by_cases h : p
  · rw [if_pos h]
    exact h1 h
  · rw [if_neg h]
    exact h2 h
/-! ### sums -/
theorem fits_small {r : Ru} {c : Int} (p1 : 1 ≤ r.prec) (p2 : r.prec ≤ 30000) (l : r.emin ≤ 0) (h : 0 ≤ r.emax) (c0 : 0 ≤ c) (c1 : nd c ≤ 999) : Fits r c := by
  refine ⟨p1, p2, l, h, c0, by omega, fun k _ => L2.divp_ok (pow10_pos k) ?_⟩
  have h1 := natAbs_lt c0 (lt_nd c0)
  have h2 : c.natAbs < 10 ^ 999 := Nat.lt_of_lt_of_le h1 (Nat.pow_le_pow_right (by decide) (by omega))
  have h3 := log2_10 h2
  unfold Builtin.Int.intBits
  split
  · omega
  · omega
def wrt (s c : Int) : Int := if s = 1 then -c else c
/-- an integer and an exponent that finish as the sum does -/
def sumP (r : Ru) (hs hc he ls lc le : Int) : Int × Int :=
  if hc = 0 then (wrt ls lc, le)
  else if (decide (min he (max r.etiny (he + nd hc - 1 - r.prec + 1) - 3) ≤ le) || (decide (0 < lc) && decide (min he (max r.etiny (he + nd hc - 1 - r.prec + 1) - 3) ≤ le + nd lc - 1))) = true then (wrt hs hc * 10 ^ (he - le).toNat + wrt ls lc, le)
  else if lc = 0 then (wrt hs hc * 10 ^ (he - min he (max r.etiny (he + nd hc - 1 - r.prec + 1) - 3)).toNat, min he (max r.etiny (he + nd hc - 1 - r.prec + 1) - 3))
  else (10 * (wrt hs hc * 10 ^ (he - min he (max r.etiny (he + nd hc - 1 - r.prec + 1) - 3)).toNat) + (if ls = 0 then 1 else -1), min he (max r.etiny (he + nd hc - 1 - r.prec + 1) - 3) - 1)
def fl1 (r : Ru) : Int := if r.rnd = "floor" then 1 else 0
/-- what is finished of an integer and an exponent: the sum of numbers with these signs -/
def finS (r : Ru) (sa sb : Int) (p : Int × Int) : Out := finP r (if p.1 = 0 then (if sa = sb then sa else fl1 r) else if p.1 < 0 then 1 else 0) (p.1.natAbs : Int) p.2
def addF (r : Ru) (sa ca ea sb cb eb : Int) : Out := finS r sa sb (if eb ≤ ea then sumP r sa ca ea sb cb eb else sumP r sb cb eb sa ca ea)
def addX (r : Ru) (a b : Dc) : Out :=
  if (a.e.isInf && (b.e.isInf && !decide (a.s = b.s))) = true then invO
  else if (a.e.isInf || b.e.isInf) = true then ⟨.dec (if a.e.isInf = true then a else b), []⟩
  else match a.e, b.e with
    | .fin m, .fin n => addF r a.s a.c m b.s b.c n
    | _, _ => invO
def negD (b : Dc) : Dc := ⟨1 - b.s, b.c, b.e⟩
def mAdd (r : Ru) (a b : Dc) : Out := match nanOf r [a, b] with
  | some o => o
  | none => addX r a b
def mSub (r : Ru) (a b : Dc) : Out := match nanOf r [a, b] with
  | some o => o
  | none => addX r a (negD b)
structure FitAdd (r : Ru) (a b : Dc) : Prop where
  fa : FitD r a
  fb : FitD r b
  p : r.prec ≤ 400
  na : nd a.c ≤ 200
  nb : nd b.c ≤ 200
theorem FitAdd.sym {r : Ru} {a b : Dc} (f : FitAdd r a b) : FitAdd r b a := ⟨f.fb, f.fa, f.p, f.nb, f.na⟩
theorem FitAdd.neg {r : Ru} {a b : Dc} (f : FitAdd r a b) : FitAdd r a (negD b) := ⟨f.fa, f.fb.sg (s := 1 - b.s) (by have := f.fb.ok.sg; omega), f.p, f.na, f.nb⟩
theorem addX_few (r : Ru) (a b : Dc) : (addX r a b).ws.length ≤ 5 := by
  unfold addX
  split
  · show 1 ≤ 5
    decide
  · split
    · show 0 ≤ 5
      decide
    · split
      · exact finP_few ..
      · show 1 ≤ 5
        decide
theorem mAdd_few (r : Ru) (a b : Dc) : (mAdd r a b).ws.length ≤ 5 := by
  unfold mAdd
  split
  · rename_i h
    have := nanOf_few h
    omega
  · exact addX_few ..
theorem mSub_few (r : Ru) (a b : Dc) : (mSub r a b).ws.length ≤ 5 := by
  unfold mSub
  split
  · rename_i h
    have := nanOf_few h
    omega
  · exact addX_few ..
/-- the Decimal of an outcome -/
def decO : D → Dc
  | .dec a => a
  | _ => ⟨0, 0, .qn⟩
def mFma (r : Ru) (a b c : Dc) : Out := match nanOf r [a, b] with
  | none => match prodX a b with
    | none => invO
    | some p => mAdd r p c
  | some q => if q.ws = [] then mAdd r (decO q.d) c else q
structure FitFma (r : Ru) (a b c : Dc) : Prop where
  m : FitMul r a b
  fc : FitD r c
  p : r.prec ≤ 400
  na : nd a.c ≤ 200
  nb : nd b.c ≤ 200
  nc : nd c.c ≤ 200
  nm : nd (a.c * b.c) ≤ 200
theorem mFma_few (r : Ru) (a b c : Dc) : (mFma r a b c).ws.length ≤ 5 := by
  unfold mFma
  split
  · split
    · show 1 ≤ 5
      decide
    · exact mAdd_few ..
  · rename_i h
    have := nanOf_few h
    split
    · exact mAdd_few ..
    · omega
theorem nanOf_dec {r : Ru} {as : List Dc} {q : Out} (h : nanOf r as = some q) : ∃ y ∈ as, q.d = .dec ⟨y.s, kept r y.c, .qn⟩ := by
  unfold nanOf at h
  split at h
  · cases h
  · rename_i x xs e
    have hx : ∀ z ∈ x :: xs, z ∈ as := fun z hz => by
      rw [← e] at hz
      exact (List.mem_filter.mp hz).1
    split at h
    · cases h
      exact ⟨x, hx x (List.mem_cons_self ..), rfl⟩
    · rename_i y ys e2
      cases h
      refine ⟨y, hx y ?_, rfl⟩
      have hy : y ∈ (x :: xs).filter (fun a => a.e.isSn) := by rw [e2]; exact List.mem_cons_self ..
      exact (List.mem_filter.mp hy).1
theorem nanOf_ws {r : Ru} {as : List Dc} {q : Out} (h : nanOf r as = some q) : q.ws = [] ∨ q.ws = (["InvalidOperation"] : List Str) := by
  unfold nanOf at h
  split at h
  · cases h
  · split at h
    · cases h
      exact .inl rfl
    · cases h
      exact .inr rfl
theorem kept_le {r : Ru} {c : Int} (h : 0 ≤ c) : 0 ≤ kept r c ∧ nd (kept r c) ≤ nd c := by
  have hp := nd_pos c
  have h0 : 0 ≤ kept r c := by
    unfold kept
    split
    · exact h
    · exact Int.emod_nonneg _ (Int.ne_of_gt (pow10_pos _))
  have h1 : kept r c ≤ c := by
    unfold kept
    split
    · exact Int.le_refl _
    · exact emod_le_self h (pow10_pos _)
  refine ⟨h0, ?_⟩
  by_cases hk : kept r c = 0
  · rw [hk, nd_zero]
    exact hp
  · have h2 := nd_low (c := kept r c) (by omega)
    have h3 := lt_nd h
    have h4 := nd_pos (kept r c)
    have h5 : (nd (kept r c) - 1).toNat < (nd c).toNat := by
      refine Nat.lt_of_not_le fun q => ?_
      have e1 : (10 : Int) ^ (nd c).toNat = ((10 ^ (nd c).toNat : Nat) : Int) := by simp
      have e2 : (10 : Int) ^ (nd (kept r c) - 1).toNat = ((10 ^ (nd (kept r c) - 1).toNat : Nat) : Int) := by simp
      have h5 : (10 : Nat) ^ (nd c).toNat ≤ 10 ^ (nd (kept r c) - 1).toNat := Nat.pow_le_pow_right (by decide) q
      rw [e2] at h2
      rw [e1] at h3
      omega
    omega
theorem FitFma.quiet {r : Ru} {a b c : Dc} {q : Out} (f : FitFma r a b c) (h : nanOf r [a, b] = some q) : FitAdd r (decO q.d) c := by
  obtain ⟨y, hy, e⟩ := nanOf_dec h
  rw [e]
  have fy : FitD r y ∧ nd y.c ≤ 200 := by
    rcases List.mem_cons.mp hy with rfl | hy
    · exact ⟨f.m.fa, f.na⟩
    · rw [List.mem_singleton.mp hy]
      exact ⟨f.m.fb, f.nb⟩
  obtain ⟨k0, k1⟩ := kept_le (r := r) fy.1.ok.co
  have k2 : nd (kept r y.c) ≤ 200 := Int.le_trans k1 fy.2
  exact ⟨⟨⟨fy.1.ok.sg, k0, fun h => nomatch h⟩, fits_small fy.1.f.p1 fy.1.f.p2 fy.1.f.l fy.1.f.h k0 (by show nd (kept r y.c) ≤ 999; omega), fy.1.c0, fy.1.c1⟩, f.fc, f.p, k2, f.nc⟩
theorem FitFma.prod {r : Ru} {a b c p : Dc} (f : FitFma r a b c) (na : a.e.isNan = false) (nb : b.e.isNan = false) (h : prodX a b = some p) : FitAdd r p c := by
  refine ⟨prodX_fit f.m na nb h, f.fc, f.p, ?_, f.nc⟩
  unfold prodX at h
  split at h
  · split at h
    · cases h
    · cases h
      show nd 0 ≤ 200
      rw [nd_zero]
      decide
  · cases h
    exact f.nm
def g_adjusted : List D → Ow → DK → Prop := fun ds O P => ∃ a n, ds = [.dec a] ∧ a.e = .fin n ∧ 0 ≤ a.c ∧ P (.int (n + nd a.c - 1)) O
def g_worth : List D → Ow → DK → Prop := fun ds O P => ∃ a, ds = [.dec a] ∧ P (.int (wrt a.s a.c)) O
def g_sum_parts : List D → Ow → DK → Prop := fun ds O P => ∃ r hs hc he ls lc le, ds = [.rul r, .dec ⟨hs, hc, .fin he⟩, .dec ⟨ls, lc, .fin le⟩] ∧ le ≤ he ∧ FitAdd r ⟨hs, hc, .fin he⟩ ⟨ls, lc, .fin le⟩ ∧ P (.tup [.int (sumP r hs hc he ls lc le).1, .int (sumP r hs hc he ls lc le).2]) O
def g_added : List D → Ow → DK → Prop := fun ds O P => ∃ r a b, ds = [.rul r, .dec a, .dec b] ∧ a.e.isNan = false ∧ b.e.isNan = false ∧ FitAdd r a b ∧ P (addX r a b).tup O
def g_tri (m : Ru → Dc → Dc → Dc → Out) (Fit : Ru → Dc → Dc → Dc → Prop) : List D → Ow → DK → Prop := fun ds O P => ∃ r a b c, ds = [.rul r, .dec a, .dec b, .dec c] ∧ Fit r a b c ∧ P (m r a b c).tup O
/-- how great what is finished can be -/
theorem wrt_abs (s c : Int) : (wrt s c).natAbs = c.natAbs := by
  unfold wrt
  split <;> omega
theorem sumP_size {r : Ru} {hs hc he ls lc le : Int} (f : FitAdd r ⟨hs, hc, .fin he⟩ ⟨ls, lc, .fin le⟩) (hl : le ≤ he) : 0 ≤ he - min he (max r.etiny (he + nd hc - 1 - r.prec + 1) - 3) ∧ he - min he (max r.etiny (he + nd hc - 1 - r.prec + 1) - 3) ≤ 402 ∧
    ((decide (min he (max r.etiny (he + nd hc - 1 - r.prec + 1) - 3) ≤ le) || (decide (0 < lc) && decide (min he (max r.etiny (he + nd hc - 1 - r.prec + 1) - 3) ≤ le + nd lc - 1))) = true → he - le ≤ 602) ∧ (sumP r hs hc he ls lc le).1.natAbs < 10 ^ 805 := by
  have p1 := f.fa.f.p1
  have p := f.p
  have na : nd hc ≤ 200 := f.na
  have nb : nd lc ≤ 200 := f.nb
  have ha := nd_pos hc
  have hb := nd_pos lc
  have ca : hc.natAbs < 10 ^ 200 := Nat.lt_of_lt_of_le (natAbs_lt f.fa.ok.co (lt_nd f.fa.ok.co)) (Nat.pow_le_pow_right (by decide) (by show (nd hc).toNat ≤ 200; omega))
  have cb : lc.natAbs < 10 ^ 200 := Nat.lt_of_lt_of_le (natAbs_lt f.fb.ok.co (lt_nd f.fb.ok.co)) (Nat.pow_le_pow_right (by decide) (by show (nd lc).toNat ≤ 200; omega))
  generalize hbt : min he (max r.etiny (he + nd hc - 1 - r.prec + 1) - 3) = bt
  have h1 : he - bt ≤ 402 := by omega
  have h2 : 0 ≤ he - bt := by omega
  have h3 : (decide (bt ≤ le) || (decide (0 < lc) && decide (bt ≤ le + nd lc - 1))) = true → he - le ≤ 602 := fun h => by
    simp only [Bool.or_eq_true, Bool.and_eq_true, decide_eq_true_eq] at h
    omega
  refine ⟨h2, h1, h3, ?_⟩
  have big : ∀ k : Int, k ≤ 602 → (wrt hs hc * 10 ^ k.toNat).natAbs < 10 ^ 802 := fun k hk => by
    rw [Int.natAbs_mul, wrt_abs, abs10, show 802 = 200 + 602 from rfl, Nat.pow_add]
    have q : (10 : Nat) ^ k.toNat ≤ 10 ^ 602 := Nat.pow_le_pow_right (by decide) (by omega)
    exact Nat.lt_of_le_of_lt (Nat.mul_le_mul_left _ q) (Nat.mul_lt_mul_of_pos_right ca (Nat.pow_pos (by decide)))
  have w1 := wrt_abs ls lc
  have e1 : (10 : Nat) ^ 802 + 10 ^ 200 < 10 ^ 805 := by decide +kernel
  have e2 : (10 : Nat) * 10 ^ 802 + 1 < 10 ^ 805 := by decide +kernel
  have e3 : (10 : Nat) ^ 200 < 10 ^ 805 := by decide +kernel
  unfold sumP
  rw [hbt]
  split
  · show (wrt ls lc).natAbs < _
    omega
  · split
    · rename_i h
      have b := big (he - le) (h3 h)
      show (wrt hs hc * 10 ^ (he - le).toNat + wrt ls lc).natAbs < _
      omega
    · have b := big (he - bt) (by omega)
      split
      · show (wrt hs hc * 10 ^ (he - bt).toNat).natAbs < _
        omega
      · show (10 * (wrt hs hc * 10 ^ (he - bt).toNat) + (if ls = 0 then 1 else -1)).natAbs < _
        split <;> omega
theorem fits_of {r : Ru} {c : Int} (f : Fits r c) {x : Int} (h : x.natAbs < 10 ^ 805) : Fits r (x.natAbs : Int) := by
  refine fits_small f.p1 f.p2 f.l f.h (by omega) ?_
  have e : ((x.natAbs : Nat) : Int) < 10 ^ 805 := by
    have e1 : (10 : Int) ^ 805 = ((10 ^ 805 : Nat) : Int) := by simp
    rw [e1]
    exact Int.ofNat_lt.mpr h
  have h1 := nd_low (c := (x.natAbs : Int))
  by_cases hx : (x.natAbs : Int) = 0
  · rw [hx, nd_zero]
    decide
  · have h2 := h1 (by omega)
    have h3 := nd_pos (x.natAbs : Int)
    have h4 : (nd (x.natAbs : Int) - 1).toNat < 805 := by
      refine Nat.lt_of_not_le fun q => ?_
      have e1 : (10 : Int) ^ 805 = ((10 ^ 805 : Nat) : Int) := by simp
      have e2 : (10 : Int) ^ (nd (x.natAbs : Int) - 1).toNat = ((10 ^ (nd (x.natAbs : Int) - 1).toNat : Nat) : Int) := by simp
      have h5 : (10 : Nat) ^ 805 ≤ 10 ^ (nd (x.natAbs : Int) - 1).toNat := Nat.pow_le_pow_right (by decide) q
      rw [e2] at h2
      omega
    omega
end Tw

namespace Tw
open PySem L2
/-! ### exponents told -/
def g_nan_ofT : List D → Ow → DK → Prop := fun ds O P => ∃ r as, ds = [.rul r, .tup (as.map D.dec)] ∧ (∀ a ∈ as, FitD r a) ∧ as.length ≤ 1000 ∧ P (optT (nanOf r as)) O
/-- the sign of an integer -/
def sgI (i : Int) : Int := if i < 0 then 1 else 0
theorem sgI_or (i : Int) : sgI i = 0 ∨ sgI i = 1 := by
  unfold sgI
  split <;> simp
def mLogb (r : Ru) (a : Dc) : Out := match nanOf r [a] with
  | some o => o
  | none => match a.e with
    | .fin n => if a.c = 0 then ⟨.dec ⟨1, 0, .inf⟩, ["DivisionByZero"]⟩ else finP r (sgI (n + nd a.c - 1)) ((n + nd a.c - 1).natAbs : Int) 0
    | _ => ⟨.dec ⟨0, 0, .inf⟩, []⟩
structure FitLogb (r : Ru) (a : Dc) : Prop where
  f : FitD r a
  g : ∀ n, a.e = .fin n → Fits r ((n + nd a.c - 1).natAbs : Int)
theorem mLogb_few (r : Ru) (a : Dc) : (mLogb r a).ws.length ≤ 5 := by
  unfold mLogb
  split
  · rename_i h
    have := nanOf_few h
    omega
  · split
    · split
      · show 1 ≤ 5
        decide
      · exact finP_few ..
    · show 0 ≤ 5
      decide
def g_unF (m : Ru → Dc → Out) (Fit : Ru → Dc → Prop) : List D → Ow → DK → Prop := fun ds O P => ∃ r a, ds = [.rul r, .dec a] ∧ Fit r a ∧ P (m r a).tup O
end Tw

namespace Tw
open PySem L2
/-! ### Decimals compared -/
def cmpI (x y : Int) : Int := b2i (decide (y < x)) - b2i (decide (x < y))
theorem cmpI_lt {x y : Int} (h : x < y) : cmpI x y = -1 := by
  unfold cmpI b2i
  rw [decide_eq_true h, decide_eq_false (show ¬ y < x by omega)]
  rfl
theorem cmpI_gt {x y : Int} (h : y < x) : cmpI x y = 1 := by
  unfold cmpI b2i
  rw [decide_eq_true h, decide_eq_false (show ¬ x < y by omega)]
  rfl
theorem cmpI_eq (x : Int) : cmpI x x = 0 := by
  unfold cmpI b2i
  rw [decide_eq_false (Int.lt_irrefl x)]
  rfl
def magX (a : Dc) : Int := if a.e.isInf = true then 2 else if a.c = 0 then 0 else 1
def sideX (a : Dc) : Int := if a.s = 1 then -(magX a) else magX a
def valO (c1 e1 c2 e2 : Int) : Int := cmpI (c1 * 10 ^ (e1 - min e1 e2).toNat) (c2 * 10 ^ (e2 - min e1 e2).toNat)
def exI : Ex4 → Int
  | .fin n => n
  | _ => 0
def ordX (a b : Dc) : Int := if sideX a ≠ sideX b then (if sideX a < sideX b then -1 else 1) else if (sideX a).natAbs = 2 then 0 else sideX a * valO a.c (exI a.e) b.c (exI b.e)
theorem pwE {a b : Int} (ha : 0 ≤ a) (hb : 0 ≤ b) : (10 : Int) ^ (a + b).toNat = 10 ^ a.toNat * 10 ^ b.toNat := by
  rw [← Int.pow_add]
  congr 1
  omega
theorem pw_mono {a b : Nat} (h : a ≤ b) : (10 : Int) ^ a ≤ 10 ^ b := by
  have e1 : (10 : Int) ^ a = ((10 ^ a : Nat) : Int) := by simp
  have e2 : (10 : Int) ^ b = ((10 ^ b : Nat) : Int) := by simp
  rw [e1, e2]
  exact Int.ofNat_le.mpr (Nat.pow_le_pow_right (by decide) h)
/-- a number whose first digit stands further back is less -/
theorem far_lt {c1 e1 c2 e2 m : Int} (h1 : 0 < c1) (h2 : 0 < c2) (m1 : m ≤ e1) (m2 : m ≤ e2) (h : e1 + nd c1 < e2 + nd c2) : c1 * 10 ^ (e1 - m).toNat < c2 * 10 ^ (e2 - m).toNat := by
  have a := lt_nd (Int.le_of_lt h1)
  have b := nd_low h2
  have n1 := nd_pos c1
  have n2 := nd_pos c2
  have p1 := pow10_pos (e1 - m).toNat
  have x : c1 * 10 ^ (e1 - m).toNat < 10 ^ (nd c1 + (e1 - m)).toNat := by
    rw [pwE (by omega) (by omega)]
    exact Int.mul_lt_mul_of_pos_right a p1
  have y : 10 ^ (nd c2 - 1 + (e2 - m)).toNat ≤ c2 * 10 ^ (e2 - m).toNat := by
    rw [pwE (by omega) (by omega)]
    exact Int.mul_le_mul_of_nonneg_right b (Int.le_of_lt (pow10_pos _))
  have z : (10 : Int) ^ (nd c1 + (e1 - m)).toNat ≤ 10 ^ (nd c2 - 1 + (e2 - m)).toNat := pw_mono (by omega)
  omega
theorem valO_lt {c1 e1 c2 e2 : Int} (h1 : 0 < c1) (h2 : 0 < c2) (h : e1 + nd c1 < e2 + nd c2) : valO c1 e1 c2 e2 = -1 := cmpI_lt (far_lt h1 h2 (by omega) (by omega) h)
theorem valO_gt {c1 e1 c2 e2 : Int} (h1 : 0 < c1) (h2 : 0 < c2) (h : e2 + nd c2 < e1 + nd c1) : valO c1 e1 c2 e2 = 1 := cmpI_gt (far_lt h2 h1 (by omega) (by omega) h)
theorem magX_cases (a : Dc) : magX a = 0 ∨ magX a = 1 ∨ magX a = 2 := by
  unfold magX
  split
  · exact .inr (.inr rfl)
  · split
    · exact .inl rfl
    · exact .inr (.inl rfl)
theorem valO_cases (c1 e1 c2 e2 : Int) : valO c1 e1 c2 e2 = -1 ∨ valO c1 e1 c2 e2 = 0 ∨ valO c1 e1 c2 e2 = 1 := by
  unfold valO
  rcases Int.lt_trichotomy (c1 * 10 ^ (e1 - min e1 e2).toNat) (c2 * 10 ^ (e2 - min e1 e2).toNat) with h | h | h
  · exact .inl (cmpI_lt h)
  · rw [h]
    exact .inr (.inl (cmpI_eq _))
  · exact .inr (.inr (cmpI_gt h))
theorem ordX_cases (a b : Dc) : ordX a b = -1 ∨ ordX a b = 0 ∨ ordX a b = 1 := by
  unfold ordX
  split
  · split
    · exact .inl rfl
    · exact .inr (.inr rfl)
  · split
    · exact .inr (.inl rfl)
    · rename_i h
      have hs : sideX a = 0 ∨ sideX a = 1 ∨ sideX a = -1 := by
        have := magX_cases a
        unfold sideX at h ⊢
        split <;> rename_i hh <;> simp only [hh, if_true, if_false] at h <;> omega
      rcases hs with hs | hs | hs <;> rw [hs] <;> rcases valO_cases a.c (exI a.e) b.c (exI b.e) with hv | hv | hv <;> rw [hv] <;> decide
def ordDc (o : Int) : Dc := ⟨if o < 0 then 1 else 0, (o.natAbs : Int), .fin 0⟩
theorem ordDc_ok (o : Int) : (ordDc o).Ok := ⟨by show (if o < 0 then (1 : Int) else 0) = 0 ∨ (if o < 0 then (1 : Int) else 0) = 1; split <;> simp, by show (0 : Int) ≤ (o.natAbs : Int); omega, fun h => nomatch h⟩
def mCmp (r : Ru) (a b : Dc) : Out := match nanOf r [a, b] with
  | some o => o
  | none => ⟨.dec (ordDc (ordX a b)), []⟩
def mCmpS (r : Ru) (a b : Dc) : Out := match nanOf r [a, b] with
  | some o => ⟨o.d, ["InvalidOperation"]⟩
  | none => ⟨.dec (ordDc (ordX a b)), []⟩
def nanAB (a b : Dc) : Bool := a.e.isNan || b.e.isNan
def mEq (r : Ru) (a b : Dc) : Out := if nanAB a b = true then ⟨.bl false, if (a.e.isSn || b.e.isSn) = true then ["InvalidOperation"] else []⟩ else ⟨.bl (decide (ordX a b = 0)), []⟩
def mLess (r : Ru) (a b : Dc) : Out := if nanAB a b = true then ⟨.bl false, ["InvalidOperation"]⟩ else ⟨.bl (decide (ordX a b < 0)), []⟩
def mAtMost (r : Ru) (a b : Dc) : Out := if nanAB a b = true then ⟨.bl false, ["InvalidOperation"]⟩ else ⟨.bl (decide (ordX a b ≤ 0)), []⟩
structure Fit2 (r : Ru) (a b : Dc) : Prop where
  fa : FitD r a
  fb : FitD r b
theorem mCmp_few (r : Ru) (a b : Dc) : (mCmp r a b).ws.length ≤ 5 := by
  unfold mCmp
  split
  · rename_i h
    have := nanOf_few h
    omega
  · show 0 ≤ 5
    decide
theorem mCmpS_few (r : Ru) (a b : Dc) : (mCmpS r a b).ws.length ≤ 5 := by
  unfold mCmpS
  split
  · show 1 ≤ 5
    decide
  · show 0 ≤ 5
    decide
theorem mEq_few (r : Ru) (a b : Dc) : (mEq r a b).ws.length ≤ 5 := by
  unfold mEq
  repeat' split
  all_goals (first | (show 1 ≤ 5; decide) | (show 0 ≤ 5; decide))
theorem mLess_few (r : Ru) (a b : Dc) : (mLess r a b).ws.length ≤ 5 := by
  unfold mLess
  repeat' split
  all_goals (first | (show 1 ≤ 5; decide) | (show 0 ≤ 5; decide))
theorem mAtMost_few (r : Ru) (a b : Dc) : (mAtMost r a b).ws.length ≤ 5 := by
  unfold mAtMost
  repeat' split
  all_goals (first | (show 1 ≤ 5; decide) | (show 0 ≤ 5; decide))
def g_side_of : List D → Ow → DK → Prop := fun ds O P => ∃ a, ds = [.dec a] ∧ P (.int (sideX a)) O
def g_size_order : List D → Ow → DK → Prop := fun ds O P => ∃ s c1 e1 t c2 e2, ds = [.dec ⟨s, c1, .fin e1⟩, .dec ⟨t, c2, .fin e2⟩] ∧ 0 < c1 ∧ 0 < c2 ∧ nd c1 ≤ 30000 ∧ nd c2 ≤ 30000 ∧ P (.int (valO c1 e1 c2 e2)) O
structure OrdQ (a b : Dc) : Prop where
  oa : a.Ok
  ob : b.Ok
  na : a.e.isNan = false
  nb : b.e.isNan = false
  la : nd a.c ≤ 30000
  lb : nd b.c ≤ 30000
def g_order_of : List D → Ow → DK → Prop := fun ds O P => ∃ a b, ds = [.dec a, .dec b] ∧ OrdQ a b ∧ P (.int (ordX a b)) O
def g_as_decimal : List D → Ow → DK → Prop := fun ds O P => ∃ o, ds = [.int o] ∧ P (.dec (ordDc o)) O
theorem Fit2.ord {r : Ru} {a b : Dc} (f : Fit2 r a b) (na : a.e.isNan = false) (nb : b.e.isNan = false) : OrdQ a b := ⟨f.fa.ok, f.fb.ok, na, nb, f.fa.f.c1, f.fb.f.c1⟩
end Tw

namespace Tw
open PySem L2
/-- what an operation of 1 operands makes, and of which ones -/
inductive Does1 : Str → (Ru → Dc → Out) → (Ru → Dc → Prop) → Prop
/-- what an operation of 2 operands makes, and of which ones -/
inductive Does2 : Str → (Ru → Dc → Dc → Out) → (Ru → Dc → Dc → Prop) → Prop
/-- what an operation of 3 operands makes, and of which ones -/
inductive Does3 : Str → (Ru → Dc → Dc → Dc → Out) → (Ru → Dc → Dc → Dc → Prop) → Prop
inductive Does : Ru → Str → List Dc → Out → Prop where
  | one {r : Ru} {z : Str} {a : Dc} {m : Ru → Dc → Out} {Fit : Ru → Dc → Prop} : Does1 z m Fit → Fit r a → Does r z [a] (m r a)
  | two {r : Ru} {z : Str} {a b : Dc} {m : Ru → Dc → Dc → Out} {Fit : Ru → Dc → Dc → Prop} : Does2 z m Fit → Fit r a b → Does r z [a, b] (m r a b)
  | three {r : Ru} {z : Str} {a b c : Dc} {m : Ru → Dc → Dc → Dc → Out} {Fit : Ru → Dc → Dc → Dc → Prop} : Does3 z m Fit → Fit r a b c → Does r z [a, b, c] (m r a b c)
theorem Does1.few {z : Str} {m : Ru → Dc → Out} {Fit : Ru → Dc → Prop} (h : Does1 z m Fit) (r : Ru) (a : Dc) : (m r a).ws.length ≤ 5 := by
  cases h
theorem Does2.few {z : Str} {m : Ru → Dc → Dc → Out} {Fit : Ru → Dc → Dc → Prop} (h : Does2 z m Fit) (r : Ru) (a b : Dc) : (m r a b).ws.length ≤ 5 := by
  cases h
theorem Does3.few {z : Str} {m : Ru → Dc → Dc → Dc → Out} {Fit : Ru → Dc → Dc → Dc → Prop} (h : Does3 z m Fit) (r : Ru) (a b c : Dc) : (m r a b c).ws.length ≤ 5 := by
  cases h
theorem Does.few {r : Ru} {z : Str} {as : List Dc} {o : Out} (h : Does r z as o) : as.length ≤ 1000 ∧ o.ws.length ≤ 5 := by
  cases h with
  | one h1 _ => exact ⟨(by show 1 ≤ 1000; decide), h1.few ..⟩
  | two h1 _ => exact ⟨(by show 2 ≤ 1000; decide), h1.few ..⟩
  | three h1 _ => exact ⟨(by show 3 ≤ 1000; decide), h1.few ..⟩
def strP : D → Str
  | .str z => z
  | _ => ""
theorem map_strP (g : Str → Str) (ws : List Str) : (ws.map D.str).map (fun d => (g (strP d), D.bl true)) = ws.map fun z => (g z, D.bl true) := by
  rw [List.map_map]
  rfl
def g_with_one : List D → Ow → DK → Prop := fun ds O P => ∃ r z a o Fit, ds = [.rul r, .str z, .dec a] ∧ Does1 z o Fit ∧ Fit r a ∧ P (o r a).tup O
/-- the operations of two operands that come first -/
def half1 (z : Str) : Bool := inD (.str z) (([("add" : Str), "subtract", "multiply", "divide", "divide_int", "remainder", "divide_both", "remainder_near", "quantize", "same_quantum", "compare", "compare_signal", "compare_total", "compare_total_mag", "equal", "less"] : List Str).map D.str)
def g_first_half : List D → Ow → DK → Prop := fun ds O P => ∃ r z a b o Fit, ds = [.rul r, .str z, .dec a, .dec b] ∧ Does2 z o Fit ∧ half1 z = true ∧ Fit r a b ∧ P (o r a b).tup O
def g_second_half : List D → Ow → DK → Prop := fun ds O P => ∃ r z a b o Fit, ds = [.rul r, .str z, .dec a, .dec b] ∧ Does2 z o Fit ∧ half1 z = false ∧ Fit r a b ∧ P (o r a b).tup O
def g_with_two : List D → Ow → DK → Prop := fun ds O P => ∃ r z a b o Fit, ds = [.rul r, .str z, .dec a, .dec b] ∧ Does2 z o Fit ∧ Fit r a b ∧ P (o r a b).tup O
def g_outcome_of : List D → Ow → DK → Prop := fun ds O P => ∃ r z as o, ds = [.rul r, .str z, .tup (as.map D.dec)] ∧ Does r z as o ∧ True ∧ P o.tup O
def g_is_operation : List D → Ow → DK → Prop := fun ds O P => ∃ z n, ds = [.str z, .int n] ∧ (∃ r as o, Does r z as o ∧ n = as.length) ∧ P (.bl true) O
def g_told : List D → Ow → DK → Prop := fun ds O P => ∃ a z xs, ds = [.ref a, .str z, .tup xs] ∧ ∃ r cap trp flg as o, O a = some (.ctx r cap trp flg) ∧ Opds xs as ∧ Does r z as o ∧ P o.told O
end Tw

namespace Tw
open PySem L2
/-! ### wells -/
def g_well (n : Int) : List D → Ow → DK → Prop := fun ds O P => ∃ i, ds = [.int i] ∧ ∀ a, O a = none → P (.ref a) (updO O a (.well n))
def g_draw : List D → Ow → DK → Prop := fun ds O P => ∃ W m, ds = [.ref W, .int m] ∧ ∃ n, O W = some (.well n) ∧ 1 ≤ m ∧ m < 10 ^ 40 ∧ 1 ≤ n ∧ ∀ v, 0 ≤ v → v < m → P (.int v) (updO O W (.well (n - 1)))
def g_one : List D → Ow → DK → Prop := fun ds O P => ∃ W xs, ds = [.ref W, .lst xs] ∧ ∃ n, O W = some (.well n) ∧ 0 < xs.length ∧ xs.length ≤ 1000 ∧ 1 ≤ n ∧ ∀ d, d ∈ xs → P d (updO O W (.well (n - 1)))
section
variable {K : PySem.W.Frag}
theorem well_imp {n : Int} {vs : List V} {H : Hp} {Q : VK} {E : XK} (h : spP K (g_well n) vs H Q E) : sp_well n vs H Q E := by
  obtain ⟨ds, F, O, P, r, ho, ⟨i, rfl, hp⟩, k⟩ := h
  obtain ⟨v, rfl, q⟩ := r.one
  cases q
  refine ⟨i, rfl, fun p H' sm np iw => ?_⟩
  obtain ⟨f1, o1⟩ := ho.free np
  obtain ⟨a, b, c, h1, h2⟩ := iw
  have s1 := ho.grow sm
  have hold : Hold K F (updO O p (.well n)) H' := s1.hold.own1 f1 h1 ⟨a, b, c, rfl, h2⟩
  refine k _ _ _ F H' (hp p o1) ⟨Same.refl F, hold, fun x o g1 g2 g3 => ?_⟩ (.ref p)
  have hb : x ≠ p := fun z => by rw [z, np] at g3; cases g3
  exact ⟨sm _ _ g3, g1, by rw [updO_ne hb]; exact g2⟩
theorem Hold.sameX {F : Hp} {O : Ow} {H H' : Hp} {W : Addr} {m m' : MO} {o : HO} (h : Hold K F O H) (hw : O W = some m) (x : SameX W H H') (h1 : H' W = some o) (hm : MoAt K F m' o) : Stp K F O H F (updO O W m') H' := by
  obtain ⟨f1, _⟩ := h.own W m hw
  refine ⟨Same.refl F, ⟨fun b u e => x _ _ (fun z => by rw [z, f1] at e; cases e) (h.sub _ _ e), fun a m2 e => ?_⟩, fun b u g1 g2 g3 => ?_⟩
  · by_cases hb : a = W
    · subst hb
      rw [updO_same] at e
      cases e
      exact ⟨f1, o, h1, hm⟩
    · rw [updO_ne hb] at e
      obtain ⟨q1, u, q2, q3⟩ := h.own a m2 e
      exact ⟨q1, u, x _ _ hb q2, q3⟩
  · have hb : b ≠ W := fun z => by rw [z, hw] at g2; cases g2
    exact ⟨x _ _ hb g3, g1, by rw [updO_ne hb]; exact g2⟩
theorem draw_imp {vs : List V} {H : Hp} {Q : VK} {E : XK} (h : spP K g_draw vs H Q E) : sp_draw vs H Q E := by
  obtain ⟨ds, F, O, P, r, ho, ⟨W, m, rfl, n, hw, m1, m2, n1, hp⟩, k⟩ := h
  obtain ⟨v, u, rfl, q1, q2⟩ := r.two
  cases q1
  cases q2
  obtain ⟨f1, o, h1, a, b, c, rfl, h2⟩ := ho.own W _ hw
  refine ⟨W, m, n, rfl, m1, m2, ⟨a, b, c, h1, h2⟩, n1, fun v H' sx iw v0 v1 => ?_⟩
  obtain ⟨a', b', c', h3, h4⟩ := iw
  exact k _ _ _ F H' (hp v v0 v1) (ho.sameX hw sx h3 ⟨a', b', c', rfl, h4⟩) (.int v)
end
theorem Reps.unc {K : PySem.W.Frag} {F : Hp} {vs : List V} {ds : List D} {n : Nat} (r : Reps K F vs ds) (h : vs.length = n + 1) : ∃ v vs' d ds', vs = v :: vs' ∧ ds = d :: ds' ∧ Rep K F v d ∧ Reps K F vs' ds' ∧ vs'.length = n := by
  cases r with
  | nil => cases h
  | cons a r => exact ⟨_, _, _, _, rfl, rfl, a, r, Nat.succ.inj h⟩
theorem Reps.nil_of {K : PySem.W.Frag} {F : Hp} {vs : List V} {ds : List D} (r : Reps K F vs ds) (h : vs.length = 0) : vs = [] ∧ ds = [] := by
  cases r with
  | nil => exact ⟨rfl, rfl⟩
  | cons a r => cases h
/-! ### contexts made by keywords -/
def g_names_of : List D → Ow → DK → Prop := fun ds O P => ∃ d z zs, ds = [d, .str z] ∧ d = .tup (zs.map D.str) ∧ zs.length ≤ 60 ∧ (zs.all fun x => inD (.str x) ordD) = true ∧ P (.lst ((namesS zs).map D.str)) O
/-- __init__ of a context, over what is held -/
def sp_ctxI (K : PySem.W.Frag) : Sp := fun vs H Q _ => ∃ (F : Hp) (O : Ow) (p dx : Addr) (r : Ru) (cap : Int) (tv : V) (d : D) (zs : List Str), vs = [.ref p, .int r.prec, .str r.rnd, .int r.emin, .int r.emax, .int cap, .int r.clamp, tv] ∧ Hold K F O H ∧ F p = none ∧ O p = none ∧
  H p = some (.ins (He.ga K "Context") dx []) ∧ Rep K F tv d ∧ (d = .tup (zs.map D.str) ∨ d = .lst (zs.map D.str)) ∧ zs.length ≤ 60 ∧ (zs.all fun x => inD (.str x) ordD) = true ∧ GoodR r cap ∧
  ∀ F' H', Same F F' → Hold K F' (updO O p (.ctx r cap (namesS zs) [])) H' → (∀ b o, b ≠ p → F b = none → O b = none → H b = some o → H' b = some o ∧ F' b = none) → F' p = none → Q .non H'
/-- what a call of Context makes, its parameters in order -/
def fCtx : List D → Ow → DK → Prop := fun ds O P => ∃ a z b c cap e d, ds = [.int a, .str z, .int b, .int c, .int cap, .int e, d] ∧ ∃ zs : List Str, (d = .tup (zs.map D.str) ∨ d = .lst (zs.map D.str)) ∧ zs.length ≤ 60 ∧ (zs.all fun x => inD (.str x) ordD) = true ∧ GoodR ⟨a, z, b, c, e⟩ cap ∧
  ∀ p, O p = none → P (.ref p) (updO O p (.ctx ⟨a, z, b, c, e⟩ cap (namesS zs) []))
def dKw (g : List D → List D) (p : DA) : DE := fun ρ O P => p ρ O fun ds O1 => fCtx (g ds) O1 P
def tKA (K : PySem.W.Frag) (p : DA) : TA := tA K p
section
variable {X : Cx} {e : Expr} {kws : List Keyword} {p : DE} {q : DA} {nm : Option Str} {kpos : Pos}
theorem PK.imp {t t' : TA} (h : PK X kws t) (i : ∀ σ H Q, t' σ H Q → t σ H Q) : PK X kws t' := ⟨fun w pins s σ H Q I q => h.run w pins s σ H Q I (i σ H Q q)⟩
theorem qk_nil : PK X [] (tA X.K dNil) := PK.imp pk_nil fun σ H Q x => by
  obtain ⟨ρ, F, O, P, er, ho, hp, k⟩ := x
  exact k _ O _ F H hp (Stp.rfl ho) .nil
theorem qk_cons (ha : PE X e (tD X.K p)) (hr : PK X kws (tA X.K q)) : PK X (⟨nm, e, kpos⟩ :: kws) (tA X.K (dCons p q)) := PK.imp (pk_cons ha hr) fun σ H Q x => by
  obtain ⟨ρ, F, O, P, er, ho, hp, k⟩ := x
  refine ⟨ρ, F, O, _, er, ho, hp, fun d1 O1 v1 F1 H1 q1 s1 r1 => ?_⟩
  refine ⟨ρ, F1, O1, _, er.mono s1.same, s1.hold, q1, fun ds O2 vs F2 H2 q2 s2 r2 => ?_⟩
  exact k _ O2 _ F2 H2 q2 (s1.tr s2) (.cons (r1.mono s2.same) r2)
end
/-- a context is made: from the keywords' data to the parameters' -/
theorem q_mkCtx {X : Cx} {k : Nat} {f : Addr} {fd : FuncData} {ps ks : List Str} {x : Str} {p pos : Pos} {kws : List Keyword} {q : DA} {g : List Value → List Value → List Value} {gV : List V → List V → List V} (gD : List D → List D) (M : Mk X.K (He.ga X.K "Context") f) (F : FnOk X.prog X.w X.K X.mg X.base CX0 k f fd ps (sp_ctxI X.K)) (hr : Room (k + 1) X.A)
    (hg : Gl X x) (hm : X.mg x = some (.ref (He.ga X.K "Context"))) (hb : KBn X.K fd ps 1 ks g gV) (hkw : PK X kws (tA X.K q))
    (hgd : ∀ (F : Hp) (v : V) (vs : List V) (ds : List D), Reps X.K F vs ds → vs.length = ks.length → ∃ us, gV [v] vs = v :: us ∧ Reps X.K F us (gD ds))
    (hlen : ∀ (ds : List D) (O : Ow) (P : DK), fCtx (gD ds) O P → ds.length = ks.length)
    (hall : (backToKw pos (keywordEach kws X.env)).all (·.1.isSome) = true := by rfl) (hks : (backToKw pos (keywordEach kws X.env)).filterMap (·.1) = ks := by rfl) (hdb : (x == ("__debug__" : Str)) = false := by decide)
    (hpl : ((backTo pos (starEach [] X.env)).any (·.1) || (backToKw pos (keywordEach kws X.env)).any (·.1.isNone)) = false := by rfl) :
    PE X (.Call (.Name x p) [] kws pos) (tD X.K (dKw gD q)) := PE.imp (pe_makeK0 M F hr hg hm hb (E := E0) (fun _ _ _ _ _ _ _ z => False.elim z) hkw hall hks hdb hpl) fun σ H Q z => by
  obtain ⟨ρ, F, O, P, er, ho, hp, k⟩ := z
  refine ⟨ρ, F, O, _, er, ho, hp, fun ds O1 vs F1 H1 q1 s1 r1 => ?_⟩
  have hl := hlen ds O1 P q1
  rw [← r1.length] at hl
  refine ⟨rfl, hl, fun y dx ny ndx nyd => ?_⟩
  obtain ⟨us, e1, r2⟩ := hgd F1 (.ref y) vs ds r1 hl
  rw [e1]
  obtain ⟨a, z, b, c, cap, e, d, ed, zs, hd, hz, hn, gr, hp⟩ := q1
  rw [ed] at r2
  obtain ⟨f1, o1⟩ := s1.hold.free ny
  obtain ⟨f2, o2⟩ := s1.hold.free ndx
  have hold : Hold X.K F1 O1 (upd (upd H1 dx (.own y)) y (.ins (He.ga X.K "Context") dx [])) := (s1.hold.loose f2 o2).loose f1 o1
  cases r2 with
  | cons a1 r2 =>
  cases r2 with
  | cons a2 r2 =>
  cases r2 with
  | cons a3 r2 =>
  cases r2 with
  | cons a4 r2 =>
  cases r2 with
  | cons a5 r2 =>
  cases r2 with
  | cons a6 r2 =>
  cases r2 with
  | cons a7 r2 =>
  cases r2
  cases a1
  cases a2
  cases a3
  cases a4
  cases a5
  cases a6
  refine ⟨F1, O1, y, dx, ⟨a, z, b, c, e⟩, cap, _, d, zs, rfl, hold, f1, o1, upd_same, a7, hd, hz, hn, gr, fun F' H' sF hF fr fp => ⟨rfl, ?_⟩⟩
  refine k _ _ _ F' H' (hp y o1) (s1.tr ⟨sF, hF, fun b o g1 g2 g3 => ?_⟩) (.ref y)
  have hb : b ≠ y := fun w => by rw [w, ny] at g3; cases g3
  have hb2 : b ≠ dx := fun w => by rw [w, ndx] at g3; cases g3
  obtain ⟨k1, k2⟩ := fr b o hb g1 g2 (by rw [upd_ne hb, upd_ne hb2]; exact g3)
  exact ⟨k1, k2, by rw [updO_ne hb]; exact g2⟩
end Tw

namespace Tw
open PySem L2
/-! ### slices -/
abbrev DO := DEnv → Ow → (Option Int → Ow → Prop) → Prop
def tO (K : PySem.W.Frag) (p : DO) : TO := fun σ H Q => ∃ ρ F O P, EnvR K F σ ρ ∧ Hold K F O H ∧ p ρ O P ∧ ∀ i O' F' H', P i O' → Stp K F O H F' O' H' → Q i H'
def dNoP : DO := fun _ O P => P none O
def dPart (p : DE) : DO := fun ρ O P => p ρ O fun d O1 => ∃ i, d = .int i ∧ P (some i) O1
def dSl (f : D → Option Int → Option Int → Ow → DK → Prop) (p : DE) (lo hi : DO) : DE := fun ρ O P => p ρ O fun d O1 => lo ρ O1 fun l O2 => hi ρ O2 fun u O3 => f d l u O3 P
def RSl (K : PySem.W.Frag) (r : V → Option Int → Option Int → Hp → VK → Prop) (f : D → Option Int → Option Int → Ow → DK → Prop) : Prop := ∀ F O H v d l u P Q, Rep K F v d → Hold K F O H → f d l u O P → Post K F O H P Q → r v l u H Q
section
variable {X : Cx} {e : Expr} {oe : Option Expr} {p : DE} {lo hi : Option Expr} {pl ph : DO} {pos p2 : Pos}
theorem PO.imp {t t' : TO} (h : PO X oe t) (i : ∀ σ H Q, t' σ H Q → t σ H Q) : PO X oe t' := ⟨fun pins s σ H Q I q => h.run pins s σ H Q I (i σ H Q q)⟩
theorem qo_none : PO X none (tO X.K dNoP) := PO.imp po_none fun σ H Q x => by
  obtain ⟨ρ, F, O, P, er, ho, hp, k⟩ := x
  exact k _ O F H hp (Stp.rfl ho)
theorem qo_some (h : PE X e (tD X.K p)) : PO X (some e) (tO X.K (dPart p)) := PO.imp (po_some h) fun σ H Q x => by
  obtain ⟨ρ, F, O, P, er, ho, hp, k⟩ := x
  refine ⟨ρ, F, O, _, er, ho, hp, fun d O1 v F1 H1 q1 s1 r1 => ?_⟩
  obtain ⟨i, rfl, q1⟩ := q1
  cases r1
  exact ⟨i, rfl, k _ O1 F1 H1 q1 s1⟩
theorem q_slice {r : V → Option Int → Option Int → Hp → VK → Prop} {f : D → Option Int → Option Int → Ow → DK → Prop} (hr : SlR X r) (hf : RSl X.K r f) (he : PE X e (tD X.K p)) (hl : PO X lo (tO X.K pl)) (hu : PO X hi (tO X.K ph)) : PE X (.Subscript e (.Slice lo hi none p2) pos) (tD X.K (dSl f p pl ph)) := PE.imp (pe_slice hr he hl hu) fun σ H Q x => by
  obtain ⟨ρ, F, O, P, er, ho, hp, k⟩ := x
  refine ⟨ρ, F, O, _, er, ho, hp, fun d O1 v F1 H1 q1 s1 r1 => ?_⟩
  refine ⟨ρ, F1, O1, _, er.mono s1.same, s1.hold, q1, fun l O2 F2 H2 q2 s2 => ?_⟩
  refine ⟨ρ, F2, O2, _, er.mono (s1.same.trans s2.same), s2.hold, q2, fun u O3 F3 H3 q3 s3 => ?_⟩
  exact hf F3 O3 H3 v d l u P Q ((r1.mono s2.same).mono s3.same) s3.hold q3 (k.st ((s1.tr s2).tr s3))
end
def cutL {α : Type} (xs : List α) (lo hi : Option Int) : List α := (xs.drop (HT.sIx xs.length 0 lo)).take (HT.sIx xs.length xs.length hi - HT.sIx xs.length 0 lo)
def fSlL : D → Option Int → Option Int → Ow → DK → Prop := fun d l u O P => ∃ xs, d = .lst xs ∧ P (.lst (cutL xs l u)) O
def fSlR : D → Option Int → Option Int → Ow → DK → Prop := fun d l u O P => ∃ xs, d = .scr xs ∧ P (.lst (cutL xs l u)) O
def fSlS : D → Option Int → Option Int → Ow → DK → Prop := fun d l u O P => ∃ z, d = .str z ∧ z.length ≤ sizeLine ∧ P (.str (cutS z l u)) O
section
variable {K : PySem.W.Frag}
theorem cut_reps {F : Hp} {vs : List V} {ds : List D} (r : Reps K F vs ds) (l u : Option Int) : Reps K F (cutV vs l u) (cutL ds l u) := by
  unfold cutV cutL
  rw [r.length]
  exact (r.drop _).take _
theorem r_slL : RSl K (rSlL K) fSlL := fun F O H v d l u P Q r ho h k => by
  obtain ⟨xs, rfl, hp⟩ := h
  cases r with
  | lst q1 q2 => exact ⟨_, _, rfl, SqL.of (ho.sub _ _ q1), fun p np => k _ O _ _ _ hp (ho.new np) (.lst upd_same ((cut_reps q2 l u).mono (ho.new np).same))⟩
theorem r_slR : RSl K (rSlL K) fSlR := fun F O H v d l u P Q r ho h k => by
  obtain ⟨xs, rfl, hp⟩ := h
  cases r with
  | scr q1 q2 => exact ⟨_, _, rfl, Same.seq ho.sub q1, fun p np => k _ O _ _ _ hp (ho.new np) (.lst upd_same ((cut_reps q2 l u).mono (ho.new np).same))⟩
theorem r_slS : RSl K rSlS fSlS := fun F O H v d l u P Q r ho h k => by
  obtain ⟨z, rfl, hl, hp⟩ := h
  cases r
  exact ⟨z, rfl, hl, k.now ho (.str _) hp⟩
end
/-! ### texts -/
def fRepS : D → D → Ow → DK → Prop := fun d1 d2 O P => ∃ z k, d1 = .str z ∧ d2 = .int k ∧ MulOk z k ∧ P (.str (Txt.mul z k)) O
theorem op_repS {X : Cx} : OpR X (binaryOp .Mult) (fun x y H Q => ∃ z k, x = .str z ∧ y = .int k ∧ MulOk z k ∧ Q (.str (Txt.mul z k)) H) := by
  intro pins s σ H x y v u Q I rx ry h
  obtain ⟨z, k, rfl, rfl, hm, q⟩ := h
  obtain ⟨t, rfl⟩ := rx
  obtain ⟨t', rfl⟩ := ry
  exact PySem.SB.mul hm fun t' k => ⟨.str _, H, I.tok _, ⟨_, rfl⟩, q⟩
theorem r_repS {K : PySem.W.Frag} : ROp K (fun x y H Q => ∃ z k, x = .str z ∧ y = .int k ∧ MulOk z k ∧ Q (.str (Txt.mul z k)) H) fRepS := fun F O H v1 d1 v2 d2 P Q r1 r2 ho h k => by
  obtain ⟨z, i, rfl, rfl, hc, hp⟩ := h
  cases r1
  cases r2
  exact ⟨z, i, rfl, rfl, hc, k.now ho (.str _) hp⟩
def fIntS : List D → Ow → DK → Prop := fun ds O P => ∃ z n, ds = [.str z] ∧ PySem.intText? z = some n ∧ z.length ≤ 640 ∧ P (.int n) O
theorem c_intS {K : PySem.W.Frag} : RCl K (fun xs H Q => ∃ a n, xs = [.str a] ∧ PySem.intText? a = some n ∧ a.length ≤ 640 ∧ Q (.int n) H) fIntS := fun F O H vs ds P Q r ho h k => by
  obtain ⟨z, n, rfl, h1, h2, hp⟩ := h
  obtain ⟨v, rfl, q⟩ := r.one
  cases q
  exact ⟨z, n, rfl, h1, h2, k.now ho (.int _) hp⟩
abbrev cl (z : Str) : List Nat := z.cps.toList
def digS (z : Str) : Prop := NumText.AllDigits (cl z)
theorem cl_len (z : Str) : (cl z).length = z.length := Array.length_toList
theorem cl_app (x y : Str) : cl (x ++ y) = cl x ++ cl y := PySem.W.KT.app_list x y
theorem len_app (x y : Str) : (x ++ y).length = x.length + y.length := by
  rw [← cl_len, cl_app, List.length_append, cl_len, cl_len]
theorem digS_app {x y : Str} (h1 : digS x) (h2 : digS y) : digS (x ++ y) := fun c hc => by
  have hc : c ∈ cl x ++ cl y := by rw [← cl_app]; exact hc
  rcases List.mem_append.mp hc with h | h
  · exact h1 c h
  · exact h2 c h
theorem cl_str (n : Nat) : cl (Str.ofString (toString (n : Int))) = (Nat.toDigits 10 n).map Char.toNat := by
  have e : Str.ofString (toString ((n : Nat) : Int)) = ⟨((Nat.toDigits 10 n).map Char.toNat).toArray⟩ := PyProof.Rows.text_ofNat n
  rw [e]
theorem digS_num {n : Nat} (h : n < 10) : digS (Str.ofString (toString (n : Int))) := by
  unfold digS
  rw [cl_str]
  have : ∀ n : Nat, n < 10 → ∀ c ∈ (Nat.toDigits 10 n).map Char.toNat, 48 ≤ c ∧ c ≤ 57 := by decide
  exact this n h
theorem len_num {n : Nat} (h : n < 10) : (Str.ofString (toString (n : Int))).length = 1 := by
  rw [len_str, ndg_small h]
theorem digitsVal_lt : ∀ (cs : List Nat), NumText.AllDigits cs → ∀ acc : Nat, cs.foldl (fun acc c => acc * 10 + (c - 48)) acc < (acc + 1) * 10 ^ cs.length
  | [], _, acc => by simp
  | c :: cs, h, acc => by
    have hc := h.head
    have ih := digitsVal_lt cs h.tail (acc * 10 + (c - 48))
    rw [List.foldl_cons, List.length_cons, Nat.pow_succ]
    have h2 : (acc * 10 + (c - 48) + 1) * 10 ^ cs.length ≤ ((acc + 1) * 10) * 10 ^ cs.length := Nat.mul_le_mul_right _ (by omega)
    calc _ < (acc * 10 + (c - 48) + 1) * 10 ^ cs.length := ih
      _ ≤ ((acc + 1) * 10) * 10 ^ cs.length := h2
      _ = (acc + 1) * (10 ^ cs.length * 10) := by rw [Nat.mul_assoc, Nat.mul_comm 10]
/-- int(text) of digits -/
theorem int_digS {z : Str} (h : digS z) (h1 : 1 ≤ z.length) (h2 : z.length ≤ 640) : ∃ n : Nat, PySem.intText? z = some (n : Int) ∧ n < 10 ^ z.length := by
  refine ⟨NumText.digitsVal (cl z), PySem.intText_digits h (fun e => ?_) (by omega), ?_⟩
  · have := cl_len z
    rw [show cl z = [] from e] at this
    simp at this
    omega
  · have := digitsVal_lt (cl z) h 0
    rw [cl_len] at this
    simpa [NumText.digitsVal] using this
theorem mulOk {z : Str} {k : Int} (h1 : -1000000 ≤ k) (h2 : k ≤ 1000000) (hz : z.length ≤ 10) : MulOk z k := by
  refine ⟨?_, fun h3 _ => ?_, fun h3 _ => ?_⟩
  · rw [Bool.or_eq_false_iff]
    exact ⟨decide_eq_false (by omega), decide_eq_false (by omega)⟩
  · have : (10 : Int) ≤ (2 ^ 63 - 1) / k := by
      refine Int.le_ediv_of_mul_le (by omega) ?_
      omega
    omega
  · unfold Builtin.Str.tooLong
    refine decide_eq_false ?_
    have h4 : z.length * k.toNat ≤ 10 * 1000000 := Nat.mul_le_mul hz (by omega)
    have h5 : (10000000 : Nat) ≤ sizeLine := by decide
    omega
theorem foldl_rep (a : Array Nat) : ∀ (n : Nat) (acc : Array Nat), ((List.replicate n a).foldl (· ++ ·) acc).toList = acc.toList ++ (List.replicate n a.toList).flatten
  | 0, acc => by simp
  | n + 1, acc => by
    rw [List.replicate_succ, List.foldl_cons, foldl_rep a n, List.replicate_succ, List.flatten_cons, Array.toList_append, List.append_assoc]
theorem cl_mul {z : Str} {k : Int} (hz : 1 ≤ z.length) : cl (Txt.mul z k) = (List.replicate k.toNat (cl z)).flatten := by
  unfold Txt.mul
  split
  · rename_i h
    rw [show k.toNat = 0 by omega]
    rfl
  · split
    · rename_i h
      have h : k = 1 := by
        simp only [Bool.or_eq_true, beq_iff_eq] at h
        omega
      rw [h]
      simp
    · show ((List.replicate k.toNat z.cps).foldl (· ++ ·) #[]).toList = _
      rw [foldl_rep]
      rfl
theorem len_flat (xs : List Nat) : ∀ n : Nat, ((List.replicate n xs).flatten).length = n * xs.length
  | 0 => by simp
  | n + 1 => by
    rw [List.replicate_succ, List.flatten_cons, List.length_append, len_flat xs n, Nat.succ_mul, Nat.add_comm]
theorem len_mul {z : Str} {k : Int} (hz : z.length = 1) : (Txt.mul z k).length = k.toNat := by
  rw [← cl_len, cl_mul (by omega), len_flat, cl_len, hz, Nat.mul_one]
theorem digS_mul {z : Str} {k : Int} (hz : z.length = 1) (h : digS z) : digS (Txt.mul z k) := fun c hc => by
  have hc : c ∈ (List.replicate k.toNat (cl z)).flatten := by rw [← cl_mul (by omega)]; exact hc
  obtain ⟨l, hl, hcl⟩ := List.mem_flatten.mp hc
  rw [List.eq_of_mem_replicate hl] at hcl
  exact h c hcl
theorem cl_cut (z : Str) (l u : Option Int) : cl (cutS z l u) = cutL (cl z) l u := by
  unfold cutS cutL
  rw [cl_len]
theorem digS_cut {z : Str} (h : digS z) (l u : Option Int) : digS (cutS z l u) := fun c hc => by
  have hc : c ∈ cutL (cl z) l u := by rw [← cl_cut]; exact hc
  exact h c (List.mem_of_mem_drop (List.mem_of_mem_take hc))
theorem len_cutLast {z : Str} (h : 1 ≤ z.length) : (cutS z none (some (-1))).length = z.length - 1 := by
  rw [← cl_len, cl_cut]
  unfold cutL
  show (((cl z).drop 0).take _).length = _
  rw [List.drop_zero, List.length_take, cl_len]
  have e : HT.sIx z.length z.length (some (-1)) = (-1 + (z.length : Int)).toNat := by
    unfold HT.sIx
    exact if_pos (by decide)
  rw [e, HT.sIx_none]
  omega
/-- the first sign is a digit, not 0 -/
def fst1 (z : Str) : Prop := ∃ c cs, cl z = c :: cs ∧ 49 ≤ c
theorem fst1_app {x y : Str} (h : fst1 x) : fst1 (x ++ y) := by
  obtain ⟨c, cs, e, hc⟩ := h
  exact ⟨c, cs ++ cl y, by rw [cl_app, e]; rfl, hc⟩
theorem fst1_num {n : Nat} (h0 : 1 ≤ n) (h : n < 10) : fst1 (Str.ofString (toString (n : Int))) := by
  unfold fst1
  rw [cl_str]
  have : ∀ n : Nat, n < 10 → 1 ≤ n → (Nat.toDigits 10 n).map Char.toNat = [48 + n] := by decide
  exact ⟨48 + n, [], this n h h0, by omega⟩
theorem fst1_mul {z : Str} {k : Int} (hz : z.length = 1) (h : fst1 z) (hk : 1 ≤ k) : fst1 (Txt.mul z k) := by
  obtain ⟨c, cs, e, hc⟩ := h
  unfold fst1
  rw [cl_mul (by omega), show k.toNat = (k.toNat - 1) + 1 by omega, List.replicate_succ, List.flatten_cons, e]
  exact ⟨c, _, rfl, hc⟩
theorem fst1_cut {z : Str} (h : fst1 z) (h2 : 2 ≤ z.length) : fst1 (cutS z none (some (-1))) := by
  have hl := len_cutLast (z := z) (by omega)
  obtain ⟨c, cs, e, hc⟩ := h
  unfold fst1
  rw [← cl_len, cl_cut] at hl
  rw [cl_cut]
  unfold cutL at hl ⊢
  rw [HT.sIx_none, List.drop_zero, e] at hl ⊢
  generalize HT.sIx (c :: cs).length (c :: cs).length (some (-1)) - 0 = t at *
  cases t with
  | zero =>
    simp at hl
    omega
  | succ t => exact ⟨c, _, List.take_succ_cons, hc⟩
theorem fst1_pos {z : Str} (h : fst1 z) : 0 < NumText.digitsVal (cl z) := by
  obtain ⟨c, cs, e, hc⟩ := h
  have mono : ∀ (cs : List Nat) (acc : Nat), acc ≤ cs.foldl (fun acc c => acc * 10 + (c - 48)) acc := by
    intro cs
    induction cs with
    | nil => intro acc; exact Nat.le_refl _
    | cons c cs ih =>
      intro acc
      rw [List.foldl_cons]
      have := ih (acc * 10 + (c - 48))
      omega
  unfold NumText.digitsVal
  rw [e, List.foldl_cons]
  have := mono cs (0 * 10 + (c - 48))
  omega
theorem int_fst1 {z : Str} (h : digS z) (hf : fst1 z) (h1 : 1 ≤ z.length) (h2 : z.length ≤ 640) : ∃ n : Nat, PySem.intText? z = some (n : Int) ∧ n < 10 ^ z.length ∧ 0 < n := by
  refine ⟨NumText.digitsVal (cl z), PySem.intText_digits h (fun e => ?_) (by omega), ?_, fst1_pos hf⟩
  · have := cl_len z
    rw [show cl z = [] from e] at this
    simp at this
    omega
  · have := digitsVal_lt (cl z) h 0
    rw [cl_len] at this
    simpa [NumText.digitsVal] using this
theorem cutL_len {α : Type} (xs : List α) (lo hi : Option Int) : (cutL xs lo hi).length ≤ xs.length := by
  unfold cutL
  rw [List.length_take, List.length_drop]
  omega
end Tw

namespace Tw
open PySem L2
/-! ### the helpers of the laws on finishing (k13 and its kin) -/
def rdsD : List D := [.str "up", .str "down", .str "ceiling", .str "floor", .str "half_up", .str "half_down", .str "half_even", .str "05up"]
def g_law_ten : List D → Ow → DK → Prop := fun ds O P => ∃ i, ds = [.int i] ∧ 0 ≤ i ∧ i ≤ 100000 ∧ P (.int (10 ^ i.toNat)) O
def g_law_parts : List D → Ow → DK → Prop := fun ds O P => ∃ a, ds = [.dec a] ∧ P (.tup [.int a.s, .int a.c, a.e.d]) O
def g_law_ways : List D → Ow → DK → Prop := fun ds O P => ds = [] ∧ P (.lst rdsD) O
/-- rules as the laws have them: a tuple -/
def ruT (r : Ru) : D := .tup [.int r.prec, .str r.rnd, .int r.emin, .int r.emax, .int r.clamp]
structure SmallQ (r : Ru) (m : Int) : Prop where
  p1 : 1 ≤ r.prec
  p2 : r.prec ≤ m
  rn : D.str r.rnd ∈ rdsD
  l1 : -9 ≤ r.emin
  l2 : r.emin ≤ 0
  h1 : 0 ≤ r.emax
  h2 : r.emax ≤ 9
  f1 : 0 ≤ r.clamp
  f2 : r.clamp ≤ 1
/-- rules with any bounds -/
structure WideQ (r : Ru) (m : Int) : Prop where
  p1 : 1 ≤ r.prec
  p2 : r.prec ≤ m
  rn : D.str r.rnd ∈ rdsD
  l1 : -999999999999999999 ≤ r.emin
  l2 : r.emin ≤ 0
  h1 : 0 ≤ r.emax
  h2 : r.emax ≤ 999999999999999999
  f1 : 0 ≤ r.clamp
  f2 : r.clamp ≤ 1
theorem SmallQ.wide {r : Ru} {m n : Int} (h : SmallQ r m) (hm : m ≤ n) : WideQ r n := by
  have l1 := h.l1
  have h2 := h.h2
  exact ⟨h.p1, Int.le_trans h.p2 hm, h.rn, by omega, h.l2, h.h1, by omega, h.f1, h.f2⟩
def g_law_rules : List D → Ow → DK → Prop := fun ds O P => ∃ W m, ds = [.ref W, .int m] ∧ ∃ n, O W = some (.well n) ∧ 1 ≤ m ∧ m ≤ 1000 ∧ 5 ≤ n ∧ ∀ r n', SmallQ r m → n - 5 ≤ n' → P (ruT r) (updO O W (.well n'))
def g_law_context : List D → Ow → DK → Prop := fun ds O P => ∃ r, ds = [ruT r] ∧ WideQ r 1000 ∧ ∀ a, O a = none → P (.ref a) (updO O a (.ctx r 1 [] []))
def g_law_digits : List D → Ow → DK → Prop := fun ds O P => ∃ W m, ds = [.ref W, .int m] ∧ ∃ n, O W = some (.well n) ∧ 1 ≤ m ∧ m ≤ 600 ∧ m + 3 ≤ n ∧ ∀ z n', digS z → fst1 z → z.length = m.toNat → n - (m + 3) ≤ n' → P (.str z) (updO O W (.well n'))
def givD (s c e : Int) : D := .tup [.int s, .int c, .int e]
def g_law_number : List D → Ow → DK → Prop := fun ds O P => ∃ W r, ds = [.ref W, ruT r] ∧ ∃ n, O W = some (.well n) ∧ SmallQ r 500 ∧ 1000 ≤ n ∧ ∀ s c e : Int, (s = 0 ∨ s = 1) → 0 < c → c < 10 ^ (r.prec + 3).toNat → -(2 * r.prec) - 14 ≤ e → e ≤ 12 → ∀ n', n - 1000 ≤ n' → P (givD s c e) (updO O W (.well n'))
def tails : List D := ([.str "", .str "", .str "0", .str "5", .str "50", .str "49", .str "51", .str "00"] : List D) ++ ([.str "001", .str "499", .str "500", .str "501", .str "9", .str "99", .str "4", .str "6"] : List D)
theorem tails_ok {d : D} (h : d ∈ tails) : ∃ z, d = .str z ∧ digS z ∧ z.length ≤ 3 := by
  simp only [tails, List.mem_append, List.mem_cons, List.not_mem_nil, or_false] at h
  unfold digS NumText.AllDigits
  rcases h with (h | h | h | h | h | h | h | h) | (h | h | h | h | h | h | h | h) <;> exact ⟨_, h, by decide +kernel, by decide +kernel⟩
theorem tails_eq : ([.str "", .str "", .str "0", .str "5", .str "50", .str "49", .str "51", .str "00", .str "001", .str "499", .str "500", .str "501", .str "9", .str "99", .str "4", .str "6"] : List D) = tails := rfl
theorem one_ok {d : D} (h : d ∈ ([.str "0", .str "5", .str "9"] : List D)) : ∃ z, d = .str z ∧ digS z ∧ z.length = 1 := by
  simp only [List.mem_cons, List.not_mem_nil, or_false] at h
  unfold digS NumText.AllDigits
  rcases h with h | h | h <;> exact ⟨_, h, by decide +kernel, by decide +kernel⟩
theorem rds_str {d : D} (h : d ∈ rdsD) : ∃ z, d = .str z := by
  simp only [rdsD, List.mem_cons, List.not_mem_nil, or_false] at h
  rcases h with h | h | h | h | h | h | h | h <;> exact ⟨_, h⟩
theorem dig1 (z : Str) (h : z = "9" ∨ z = "0" ∨ z = "1") : digS z ∧ z.length = 1 := by
  unfold digS NumText.AllDigits
  rcases h with h | h | h <;> (rw [h]; exact ⟨by decide +kernel, by decide +kernel⟩)
theorem namesS_nil : namesS [] = [] := rfl
theorem rds_in {z : Str} (h : D.str z ∈ rdsD) : inV (.str z) rounds = true := by
  have h8 : D.str z ∈ ([.str "up", .str "down", .str "ceiling", .str "floor", .str "half_up", .str "half_down", .str "half_even", .str "05up"] : List D) := h
  simp only [List.mem_cons, List.not_mem_nil, or_false, D.str.injEq] at h8
  rcases h8 with h | h | h | h | h | h | h | h <;> (rw [h]; decide +kernel)
end Tw

namespace Tw
open PySem L2
/-! ### the law's own check of a finished number, as it is reckoned -/
def upW (way : Str) (s : Int) : Bool := decide (way = "up") || decide (way = cfS s)
def isNear (way : Str) (s c mine u : Int) : Bool :=
  if u ≤ (mine - c).natAbs ∨ mine % u ≠ 0 then false
  else if mine - c = 0 then true
  else if way = "up" ∨ way = "down" ∨ way = "ceiling" ∨ way = "floor" then decide (decide (0 < mine - c) = upW way s)
  else if way = "05up" then decide (decide (0 < mine - c) = decide (c / u % 5 = 0))
  else if 2 * ((mine - c).natAbs : Int) ≠ u then decide (2 * ((mine - c).natAbs : Int) < u)
  else if way = "half_even" then decide (mine / u % 2 = 0)
  else decide (decide (0 < mine - c) = decide (way = "half_up"))
def g_law_is_near : List D → Ow → DK → Prop := fun ds O P => ∃ way s c e mine u, ds = [.str way, givD s c e, .int mine, .int u] ∧ (s = 0 ∨ s = 1) ∧ 0 < u ∧ u.natAbs.log2 < 9000 ∧ (mine - c).natAbs.log2 < 900000 ∧ P (.bl (isNear way s c mine u)) O
def isOver (r : Ru) (s c e : Int) : Bool :=
  if e + nd c - 1 ≠ r.emax ∨ r.emax - r.prec + 1 - e ≤ 0 then decide (r.emax < e + nd c - 1)
  else if r.rnd = "half_up" ∨ r.rnd = "half_even" then decide (10 ^ (r.emax - r.prec + 1 - e).toNat ≤ 2 * (c - (10 ^ r.prec.toNat - 1) * 10 ^ (r.emax - r.prec + 1 - e).toNat))
  else if r.rnd = "half_down" then decide (10 ^ (r.emax - r.prec + 1 - e).toNat < 2 * (c - (10 ^ r.prec.toNat - 1) * 10 ^ (r.emax - r.prec + 1 - e).toNat))
  else decide (0 < 2 * (c - (10 ^ r.prec.toNat - 1) * 10 ^ (r.emax - r.prec + 1 - e).toNat)) && upW r.rnd s
/-- numbers that the laws make out by texts and powers -/
structure FitQ (r : Ru) (s c e : Int) : Prop where
  sg : s = 0 ∨ s = 1
  p1 : 1 ≤ r.prec
  p2 : r.prec ≤ 2000
  l : r.emin ≤ 0
  h : 0 ≤ r.emax
  c0 : 0 ≤ c
  c1 : nd c ≤ 470
theorem cf_at {s : Int} (hs : s = 0 ∨ s = 1) : L2.atI [D.str "ceiling", D.str "floor"] s = some (.str (cfS s)) := by
  rcases hs with rfl | rfl <;> rfl
theorem FitQ.str {r : Ru} {s c e : Int} (f : FitQ r s c e) : c.natAbs.log2 < 1920 ∧ (Str.ofString (toString c)).length ≤ sizeLine ∧ (((Str.ofString (toString c)).length : Nat) : Int) = nd c ∧ c.natAbs < 10 ^ 470 := by
  have c0 := f.c0
  have c1 := f.c1
  obtain ⟨n, rfl⟩ : ∃ n : Nat, c = (n : Int) := ⟨c.toNat, by omega⟩
  have h1 : n < 10 ^ 470 := Nat.lt_of_lt_of_le (lt_ndg n) (Nat.pow_le_pow_right (by decide) (by rw [nd_nat] at c1; omega))
  have h2 := log2_10 h1
  have hz : (100000 : Nat) ≤ sizeLine := by decide
  rw [len_str, nd_nat] at *
  exact ⟨by rw [Int.natAbs_natCast]; omega, by omega, rfl, h1⟩
theorem mulW2 {x : Int} (h : x.natAbs.log2 < 900000) : CMulW 2 x := by
  show (2 : Int).natAbs.log2 + _ < 1000000
  have : (2 : Int).natAbs.log2 ≤ 2 := by decide
  omega
theorem abs10m (n : Nat) : ((10 : Int) ^ n - 1).natAbs < 10 ^ n := by
  have h := pow10_pos n
  have e : (10 : Int) ^ n = ((10 ^ n : Nat) : Int) := by simp
  rw [e] at h ⊢
  omega
def g_law_is_over : List D → Ow → DK → Prop := fun ds O P => ∃ r s c e, ds = [ruT r, givD s c e] ∧ FitQ r s c e ∧ P (.bl (isOver r s c e)) O
def mostD (r : Ru) (s : Int) : D := if toInf r s = true then .tup [.int s, .int 0, .str "F"] else .tup [.int s, .int (10 ^ r.prec.toNat - 1), .int (r.emax - r.prec + 1)]
def g_law_most : List D → Ow → DK → Prop := fun ds O P => ∃ r s, ds = [ruT r, .int s] ∧ (s = 0 ∨ s = 1) ∧ 1 ≤ r.prec ∧ r.prec ≤ 2000 ∧ P (mostD r s) O
end Tw

namespace Tw
open PySem L2
/-! ### the plain law of rounding -/
theorem cut_true {c cut : Int} (hc : 0 ≤ c) (h0 : 0 ≤ cut) : cutLeft c cut = c / 10 ^ cut.toNat ∧ cutInex c cut = decide (0 < c % 10 ^ cut.toNat) ∧ cutSide c cut = b2i (decide (10 ^ cut.toNat < 2 * (c % 10 ^ cut.toNat))) - b2i (decide (2 * (c % 10 ^ cut.toNat) < 10 ^ cut.toNat)) := by
  unfold cutLeft cutInex cutSide
  by_cases h : cut ≤ nd c
  · rw [if_pos h, if_pos h, if_pos h]
    exact ⟨rfl, rfl, rfl⟩
  · rw [if_neg h, if_neg h, if_neg h]
    have h1 := lt_nd hc
    have hp := nd_pos c
    have h2 : (10 : Int) ^ (nd c).toNat * 10 ≤ 10 ^ cut.toNat := by
      have e1 : (10 : Int) ^ cut.toNat = ((10 ^ cut.toNat : Nat) : Int) := by simp
      have e2 : (10 : Int) ^ (nd c).toNat * 10 = ((10 ^ ((nd c).toNat + 1) : Nat) : Int) := by
        rw [Nat.pow_succ]
        simp
      rw [e1, e2]
      exact Int.ofNat_le.mpr (Nat.pow_le_pow_right (by decide) (by omega))
    have hu := pow10_pos cut.toNat
    generalize (10 : Int) ^ cut.toNat = u at *
    have e1 : c / u = 0 := Int.ediv_eq_zero_of_lt hc (by omega)
    have e2 : c % u = c := Int.emod_eq_of_lt hc (by omega)
    rw [e1, e2]
    refine ⟨rfl, rfl, ?_⟩
    rw [decide_eq_false (show ¬ u < 2 * c by omega), decide_eq_true (show 2 * c < u by omega)]
    rfl
section
variable {s l d : Int}
theorem gu_up : goesUp "up" s l d = true := by
  unfold goesUp
  rw [if_neg (by decide +kernel), if_neg (by decide +kernel), show decide (("up" : Str) = "up") = true from by decide +kernel]
  rfl
theorem gu_down : goesUp "down" s l d = false := by
  unfold goesUp
  rw [if_neg (by decide +kernel), if_neg (by decide +kernel), show decide (("down" : Str) = "up") = false from by decide +kernel, show decide (("down" : Str) = "ceiling") = false from by decide +kernel, show decide (("down" : Str) = "floor") = false from by decide +kernel]
  rfl
theorem gu_ceiling : goesUp "ceiling" s l d = decide (s = 0) := by
  unfold goesUp
  rw [if_neg (by decide +kernel), if_neg (by decide +kernel), show decide (("ceiling" : Str) = "up") = false from by decide +kernel, show decide (("ceiling" : Str) = "ceiling") = true from by decide +kernel, show decide (("ceiling" : Str) = "floor") = false from by decide +kernel]
  simp
theorem gu_floor : goesUp "floor" s l d = decide (s = 1) := by
  unfold goesUp
  rw [if_neg (by decide +kernel), if_neg (by decide +kernel), show decide (("floor" : Str) = "up") = false from by decide +kernel, show decide (("floor" : Str) = "ceiling") = false from by decide +kernel, show decide (("floor" : Str) = "floor") = true from by decide +kernel]
  simp
theorem gu_half_up : goesUp "half_up" s l d = decide (0 ≤ d) := by
  unfold goesUp
  rw [if_pos (by decide +kernel), show decide (("half_up" : Str) = "half_up") = true from by decide +kernel, Bool.true_or, Bool.and_true, Bool.eq_iff_iff]
  simp only [Bool.or_eq_true, decide_eq_true_eq]
  omega
theorem gu_half_down : goesUp "half_down" s l d = decide (0 < d) := by
  unfold goesUp
  rw [if_pos (by decide +kernel), show decide (("half_down" : Str) = "half_up") = false from by decide +kernel, show decide (("half_down" : Str) = "half_even") = false from by decide +kernel]
  simp
theorem gu_half_even : goesUp "half_even" s l d = (decide (0 < d) || (decide (d = 0) && decide (l % 2 = 1))) := by
  unfold goesUp
  rw [if_pos (by decide +kernel), show decide (("half_even" : Str) = "half_up") = false from by decide +kernel, show decide (("half_even" : Str) = "half_even") = true from by decide +kernel]
  simp
theorem gu_05up : goesUp "05up" s l d = decide (l % 5 = 0) := by
  unfold goesUp
  rw [if_neg (by decide +kernel), if_pos (by decide +kernel)]
end
theorem near_dir {way : Str} {s c m u : Int} (h : way = "up" ∨ way = "down" ∨ way = "ceiling" ∨ way = "floor") (h1 : ((m - c).natAbs : Int) < u) (h2 : m % u = 0) (h3 : decide (0 < m - c) = upW way s) : isNear way s c m u = true := by
  unfold isNear
  rw [if_neg (by rintro (q | q); omega; exact q h2), if_pos h, h3]
  split
  · rfl
  · exact decide_eq_true rfl
theorem rds_cases {z : Str} (h : D.str z ∈ rdsD) : z = "up" ∨ z = "down" ∨ z = "ceiling" ∨ z = "floor" ∨ z = "half_up" ∨ z = "half_down" ∨ z = "half_even" ∨ z = "05up" := by
  have h8 : D.str z ∈ ([.str "up", .str "down", .str "ceiling", .str "floor", .str "half_up", .str "half_down", .str "half_even", .str "05up"] : List D) := h
  simpa only [List.mem_cons, List.not_mem_nil, or_false, D.str.injEq] using h8
/-- left times the unit is near, in the way's own sense -/
theorem near_left {way : Str} {s c u q t left side : Int} (hw : D.str way ∈ rdsD) (hs : s = 0 ∨ s = 1) (hu : 0 < u) (ht0 : 0 ≤ t) (htu : t < u) (hc : c = u * q + t) (hside : side = b2i (decide (u < 2 * t)) - b2i (decide (2 * t < u)))
    (hl : left = if (decide (0 < t) && goesUp way s q side) = true then q + 1 else q) : isNear way s c (left * u) u = true := by
  have hm : (left * u) % u = 0 := Int.mul_emod_left _ _
  have hd : left * u / u = left := Int.mul_ediv_cancel _ (by omega)
  have hcq : c / u = q := by
    rw [hc, Int.mul_comm, Int.add_comm, Int.add_mul_ediv_right _ _ (by omega), Int.ediv_eq_zero_of_lt ht0 htu]
    omega
  by_cases ht : t = 0
  · have e : left = q := by
      rw [hl, decide_eq_false (by omega)]
      rfl
    have g : left * u - c = 0 := by
      rw [hc, ht, e, Int.mul_comm]
      omega
    unfold isNear
    rw [g, if_neg (by rintro (q | q); (simp at q; omega); exact q hm), if_pos rfl]
  · rw [decide_eq_true (show 0 < t by omega), Bool.true_and] at hl
    generalize hb : goesUp way s q side = b at hl
    have gap : left * u - c = if b = true then u - t else -t := by
      rw [hl, hc]
      split
      · rw [Int.add_mul, Int.one_mul, Int.mul_comm q u]
        omega
      · rw [Int.mul_comm q u]
        omega
    have h1 : ((left * u - c).natAbs : Int) < u := by
      rw [gap]
      split <;> omega
    have pos : decide (0 < left * u - c) = b := by
      rw [gap]
      cases b
      · rw [if_neg Bool.false_ne_true]
        exact decide_eq_false (by omega)
      · rw [if_pos rfl]
        exact decide_eq_true (by omega)
    have hside2 : (0 < side ↔ u < 2 * t) ∧ (side = 0 ↔ u = 2 * t) := by
      rw [hside]
      unfold b2i
      simp only [decide_eq_true_eq]
      split <;> split <;> omega
    rcases rds_cases hw with rfl | rfl | rfl | rfl | rfl | rfl | rfl | rfl
    · rw [gu_up] at hb
      refine near_dir (.inl rfl) h1 hm ?_
      rw [pos, ← hb]
      rcases hs with rfl | rfl <;> decide +kernel
    · rw [gu_down] at hb
      refine near_dir (.inr (.inl rfl)) h1 hm ?_
      rw [pos, ← hb]
      rcases hs with rfl | rfl <;> decide +kernel
    · rw [gu_ceiling] at hb
      refine near_dir (.inr (.inr (.inl rfl))) h1 hm ?_
      rw [pos, ← hb]
      rcases hs with rfl | rfl <;> decide +kernel
    · rw [gu_floor] at hb
      refine near_dir (.inr (.inr (.inr rfl))) h1 hm ?_
      rw [pos, ← hb]
      rcases hs with rfl | rfl <;> decide +kernel
    all_goals
      unfold isNear
      rw [if_neg (by rintro (q | q); omega; exact q hm)]
      rw [if_neg (by rw [gap]; split <;> omega)]
      rw [if_neg (by decide +kernel)]
    · rw [gu_half_up] at hb
      rw [if_neg (by decide +kernel)]
      split
      · rename_i h
        refine decide_eq_true ?_
        rw [gap] at h ⊢
        cases b
        · have := of_decide_eq_false hb
          rw [if_neg Bool.false_ne_true] at h ⊢
          omega
        · have := of_decide_eq_true hb
          rw [if_pos rfl] at h ⊢
          omega
      · rename_i h
        rw [if_neg (by decide +kernel), pos]
        rw [gap] at h
        cases b
        · have := of_decide_eq_false hb
          rw [if_neg Bool.false_ne_true] at h
          omega
        · decide +kernel
    · rw [gu_half_down] at hb
      rw [if_neg (by decide +kernel)]
      split
      · rename_i h
        refine decide_eq_true ?_
        rw [gap] at h ⊢
        cases b
        · have := of_decide_eq_false hb
          rw [if_neg Bool.false_ne_true] at h ⊢
          omega
        · have := of_decide_eq_true hb
          rw [if_pos rfl] at h ⊢
          omega
      · rename_i h
        rw [if_neg (by decide +kernel), pos]
        rw [gap] at h
        cases b
        · decide +kernel
        · have := of_decide_eq_true hb
          rw [if_pos rfl] at h
          omega
    · rw [gu_half_even] at hb
      rw [if_neg (by decide +kernel)]
      split
      · rename_i h
        refine decide_eq_true ?_
        rw [gap] at h ⊢
        cases b
        · simp only [Bool.or_eq_false_iff, Bool.and_eq_false_iff, decide_eq_false_iff_not] at hb
          rw [if_neg Bool.false_ne_true] at h ⊢
          omega
        · simp only [Bool.or_eq_true, Bool.and_eq_true, decide_eq_true_eq] at hb
          rw [if_pos rfl] at h ⊢
          omega
      · rename_i h
        rw [if_pos (by decide +kernel), hd]
        refine decide_eq_true ?_
        rw [gap] at h
        cases b
        · simp only [Bool.or_eq_false_iff, Bool.and_eq_false_iff, decide_eq_false_iff_not] at hb
          rw [if_neg Bool.false_ne_true] at h hl
          omega
        · simp only [Bool.or_eq_true, Bool.and_eq_true, decide_eq_true_eq] at hb
          rw [if_pos rfl] at h hl
          omega
    · rw [gu_05up] at hb
      rw [if_pos (by decide +kernel), pos, hcq, hb]
      exact decide_eq_true rfl
theorem isPys_strs : ∀ zs : List Str, isPys (zs.map D.str) = true
  | [] => by rw [List.map_nil]; unfold isPys; rfl
  | z :: zs => by
    rw [List.map_cons]
    unfold isPys
    rw [isPys_strs zs]
    unfold isPy
    rfl
theorem dpys_strs : ∀ zs : List Str, dpys (zs.map D.str) = zs.map PyData.str
  | [] => by rw [List.map_nil]; unfold dpys; rfl
  | z :: zs => by
    rw [List.map_cons, List.map_cons]
    unfold dpys
    rw [dpys_strs zs]
    unfold dpy
    rfl
theorem lay_strs : ∀ zs : List Str, (∀ z ∈ zs, PyData.strOk z = true) → PyData.canLayAll0 (zs.map PyData.str) = true
  | [], _ => by rw [List.map_nil]; unfold PyData.canLayAll0; rfl
  | z :: zs, h => by
    rw [List.map_cons]
    unfold PyData.canLayAll0
    rw [lay_strs zs fun y hy => h y (List.mem_cons_of_mem _ hy)]
    unfold PyData.canLay0
    rw [h z (List.mem_cons_self ..)]
    rfl
theorem depth_strs : ∀ zs : List Str, PyData.depthAll (zs.map PyData.str) ≤ 1
  | [] => by rw [List.map_nil]; unfold PyData.depthAll; omega
  | z :: zs => by
    have ih := depth_strs zs
    rw [List.map_cons]
    unfold PyData.depthAll
    have : PyData.depth (.str z) ≤ 1 := by unfold PyData.depth; omega
    omega
theorem shp_strs {zs : List Str} (h : ∀ z ∈ zs, PyData.strOk z = true) : shp (D.lst (zs.map D.str)) := by
  refine ⟨by unfold isPy; exact isPys_strs zs, ?_⟩
  unfold dpy
  rw [dpys_strs]
  unfold SeqAt.shaped
  have h1 : PyData.canLay0 (.list (zs.map PyData.str)) = true := by unfold PyData.canLay0; exact lay_strs zs h
  have h2 : PyData.depth (.list (zs.map PyData.str)) ≤ 64 := by
    have := depth_strs zs
    unfold PyData.depth
    omega
  rw [h1, decide_eq_true h2]
  rfl
theorem deq_refl {d : D} (h : shp d) : deq d d = true := SeqAt.eqv_refl _ (SeqAt.canLay_of_shaped h.2)
/-- what is asked of a number, as it is looked at, and of the coefficient left -/
structure NearOk (r : Ru) (s left last : Int) (inex : Bool) (c e : Int) : Prop where
  le : e ≤ last
  far : last - e ≤ 2000
  cz : c.natAbs < 10 ^ 480
  near : isNear r.rnd s c (left * 10 ^ (last - e).toNat) (10 ^ (last - e).toNat) = true
  dif : decide (left * 10 ^ (last - e).toNat = c) = !inex
structure CutOk (r : Ru) (s c e fc fe left last : Int) (inex : Bool) (zs : List Str) : Prop where
  st : ∀ z ∈ zs, PyData.strOk z = true
  q : FitQ r s c e
  l0 : 0 ≤ left
  lz : left ≤ 10 ^ r.prec.toNat
  fin : (fe = last ∧ fc = left ∧ left < 10 ^ r.prec.toNat) ∨ (fe = last + 1 ∧ fc = 10 ^ (r.prec - 1).toNat ∧ left = 10 ^ r.prec.toNat ∧ r.emin ≤ e + nd c - 1)
  n1 : last - e ≤ nd c + 1 → NearOk r s left last inex c e
  n2 : nd c + 1 < last - e → NearOk r s left last inex 1 (last - 2)
  zs : zs.map D.str = optL (decide (fc = 0)) [.str "Clamped"] ++ optL inex [.str "Inexact"] ++ [.str "Rounded"] ++ optL (decide (e + nd c - 1 < r.emin)) [.str "Subnormal"] ++ optL (decide (e + nd c - 1 < r.emin) && inex) [.str "Underflow"]
def g_law_is_cut : List D → Ow → DK → Prop := fun ds O P => ∃ (r : Ru) (s c e : Int) (fc fe : Int) (zs : List Str) (last : Int), ds = [ruT r, givD s c e, .tup [.dec ⟨s, fc, .fin fe⟩, .tup (zs.map D.str)], .int last] ∧ (∃ left inex, CutOk r s c e fc fe left last inex zs) ∧ P (.bl true) O
def g_law_is_finished : List D → Ow → DK → Prop := fun ds O P => ∃ (r : Ru) (s c e : Int), ds = [ruT r, givD s c e, (finP r s c e).told] ∧ FitQ r s c e ∧ D.str r.rnd ∈ rdsD ∧ P (.bl true) O
end Tw

namespace Tw
open PySem L2
/-! ### the plain law: what finP tells is what the law's check wants -/
theorem pw_le {a b : Nat} (h : a ≤ b) : (10 : Int) ^ a ≤ 10 ^ b := by
  have e1 : (10 : Int) ^ a = ((10 ^ a : Nat) : Int) := by simp
  have e2 : (10 : Int) ^ b = ((10 ^ b : Nat) : Int) := by simp
  rw [e1, e2]
  exact Int.ofNat_le.mpr (Nat.pow_le_pow_right (by decide) h)
theorem nd_le {x : Int} {k : Nat} (hk : 1 ≤ k) (h0 : 0 ≤ x) (h : x < 10 ^ k) : nd x ≤ k := by
  obtain ⟨n, rfl⟩ : ∃ n : Nat, x = (n : Int) := ⟨x.toNat, by omega⟩
  have e1 : (10 : Int) ^ k = ((10 ^ k : Nat) : Int) := by simp
  rw [e1] at h
  rw [nd_nat]
  exact Int.ofNat_le.mpr (ndg_le hk (Int.ofNat_lt.mp h))
theorem nd_gt {x : Int} {k : Nat} (h : 10 ^ k ≤ x) : (k : Int) < nd x := by
  have hp := pow10_pos k
  obtain ⟨n, rfl⟩ : ∃ n : Nat, x = (n : Int) := ⟨x.toNat, by omega⟩
  have e1 : (10 : Int) ^ k = ((10 ^ k : Nat) : Int) := by simp
  rw [e1] at h
  rw [nd_nat]
  have := ndg_ge (Int.ofNat_le.mp h)
  omega
/-- c without its last cut digits: below 10 ^ (nd c - cut) -/
theorem div_lt {c : Int} {cut k : Nat} (hc : 0 ≤ c) (hk : nd c ≤ k + cut) : c / 10 ^ cut < 10 ^ k := by
  have h1 := lt_nd hc
  have h2 : c < 10 ^ (k + cut) := Int.lt_of_lt_of_le h1 (pw_le (by omega))
  rw [Int.pow_add] at h2
  exact Int.ediv_lt_of_lt_mul (pow10_pos cut) h2
theorem div_ge {c : Int} {cut k : Nat} (hc : 0 < c) (hk : k + cut ≤ nd c - 1) : 10 ^ k ≤ c / 10 ^ cut := by
  have h1 := nd_low hc
  have h2 : (10 : Int) ^ (k + cut) ≤ c := Int.le_trans (pw_le (by omega)) h1
  rw [Int.pow_add] at h2
  exact Int.le_ediv_of_mul_le (pow10_pos cut) h2
theorem roundL_eq {rn : Str} {s c cut : Int} (hc : 0 ≤ c) (h0 : 0 ≤ cut) : roundL rn s c cut = if (decide (0 < c % 10 ^ cut.toNat) && goesUp rn s (c / 10 ^ cut.toNat) (b2i (decide (10 ^ cut.toNat < 2 * (c % 10 ^ cut.toNat))) - b2i (decide (2 * (c % 10 ^ cut.toNat) < 10 ^ cut.toNat)))) = true then c / 10 ^ cut.toNat + 1 else c / 10 ^ cut.toNat := by
  obtain ⟨h1, h2, h3⟩ := cut_true hc h0
  unfold roundL
  rw [h1, h2, h3]
theorem near_roundL {r : Ru} {s c cut : Int} (hw : D.str r.rnd ∈ rdsD) (hs : s = 0 ∨ s = 1) (hc : 0 ≤ c) (h0 : 0 ≤ cut) : isNear r.rnd s c (roundL r.rnd s c cut * 10 ^ cut.toNat) (10 ^ cut.toNat) = true ∧ decide (roundL r.rnd s c cut * 10 ^ cut.toNat = c) = !cutInex c cut := by
  have hu := pow10_pos cut.toNat
  have t0 := Int.emod_nonneg c (b := 10 ^ cut.toNat) (by omega)
  have t1 := Int.emod_lt_of_pos c hu
  have hq := Int.emod_add_mul_ediv c (10 ^ cut.toNat)
  obtain ⟨_, h2, _⟩ := cut_true hc h0
  have hr := roundL_eq (rn := r.rnd) (s := s) hc h0
  generalize roundL r.rnd s c cut = left at *
  generalize (10 : Int) ^ cut.toNat = u at *
  generalize c % u = t at *
  generalize hqq : c / u = q at *
  refine ⟨near_left (side := b2i (decide (u < 2 * t)) - b2i (decide (2 * t < u))) hw hs hu t0 t1 (by omega) rfl hr, ?_⟩
  rw [h2]
  by_cases ht : t = 0
  · rw [decide_eq_false (show ¬ 0 < t by omega)] at hr ⊢
    have e : left = q := hr
    rw [e, decide_eq_true]
    · rfl
    · rw [Int.mul_comm]
      omega
  · rw [decide_eq_true (show 0 < t by omega)]
    refine decide_eq_false fun h => ?_
    have h5 : (left - q) * u = t := by
      rw [Int.sub_mul, h, Int.mul_comm q u]
      omega
    rw [decide_eq_true (show 0 < t by omega), Bool.true_and] at hr
    split at hr
    · have e : left - q = 1 := by omega
      rw [e, Int.one_mul] at h5
      omega
    · have e : left - q = 0 := by omega
      rw [e, Int.zero_mul] at h5
      omega
/-- the carry beyond the greatest number, told by the gap to it -/
theorem overC {rn : Str} {s c u q t Q side : Int} (hw : D.str rn ∈ rdsD) (hs : s = 0 ∨ s = 1) (hu : 0 < u) (ht0 : 0 ≤ t) (htu : t < u) (hc : c = u * q + t) (hq : q < Q) (h2 : Q % 2 = 0) (h5 : Q % 5 = 0) (hside : side = b2i (decide (u < 2 * t)) - b2i (decide (2 * t < u))) :
    (if rn = "half_up" ∨ rn = "half_even" then decide (u ≤ 2 * (c - (Q - 1) * u)) else if rn = "half_down" then decide (u < 2 * (c - (Q - 1) * u)) else decide (0 < 2 * (c - (Q - 1) * u)) && upW rn s) =
      decide ((if (decide (0 < t) && goesUp rn s q side) = true then q + 1 else q) = Q) := by
  have gap : (q = Q - 1 → c - (Q - 1) * u = t) ∧ (q ≠ Q - 1 → c - (Q - 1) * u < 0) := by
    constructor
    · intro h
      rw [← h, hc, Int.mul_comm q u]
      omega
    · intro h
      have h1 : u * q ≤ u * (Q - 2) := Int.mul_le_mul_of_nonneg_left (by omega) (by omega)
      have h3 : (Q - 1) * u = u * (Q - 2) + u := by
        rw [Int.mul_comm, show Q - 1 = (Q - 2) + 1 by omega, Int.mul_add, Int.mul_one]
      omega
  have hside2 : (0 < side ↔ u < 2 * t) ∧ (side = 0 ↔ u = 2 * t) := by
    rw [hside]
    unfold b2i
    simp only [decide_eq_true_eq]
    split <;> split <;> omega
  have key : ∀ (b : Bool), decide ((if (decide (0 < t) && b) = true then q + 1 else q) = Q) = (decide (q = Q - 1) && (decide (0 < t) && b)) := by
    intro b
    cases b with
    | false =>
      rw [Bool.and_false, Bool.and_false, if_neg (by decide), decide_eq_false (show ¬ q = Q by omega)]
    | true =>
      rw [Bool.and_true, Bool.eq_iff_iff]
      simp only [decide_eq_true_eq, Bool.and_eq_true]
      split <;> omega
  rw [key]
  generalize c - (Q - 1) * u = g at *
  clear key hside hc
  by_cases hqq : q = Q - 1
  · have hg : g = t := gap.1 hqq
    clear gap
    subst hg
    rw [decide_eq_true hqq, Bool.true_and]
    have m2 : q % 2 = 1 := by omega
    have m5 : q % 5 ≠ 0 := by omega
    rcases rds_cases hw with rfl | rfl | rfl | rfl | rfl | rfl | rfl | rfl
    · rw [gu_up, if_neg (by decide +kernel), if_neg (by decide +kernel), show upW "up" s = true from by rcases hs with rfl | rfl <;> decide +kernel, Bool.and_true, Bool.and_true, Bool.eq_iff_iff]
      simp only [decide_eq_true_eq]
      omega
    · rw [gu_down, if_neg (by decide +kernel), if_neg (by decide +kernel), show upW "down" s = false from by rcases hs with rfl | rfl <;> decide +kernel, Bool.and_false, Bool.and_false]
    · rw [gu_ceiling, if_neg (by decide +kernel), if_neg (by decide +kernel), show upW "ceiling" s = decide (s = 0) from by rcases hs with rfl | rfl <;> decide +kernel, Bool.eq_iff_iff]
      simp only [Bool.and_eq_true, decide_eq_true_eq]
      omega
    · rw [gu_floor, if_neg (by decide +kernel), if_neg (by decide +kernel), show upW "floor" s = decide (s = 1) from by rcases hs with rfl | rfl <;> decide +kernel, Bool.eq_iff_iff]
      simp only [Bool.and_eq_true, decide_eq_true_eq]
      omega
    · rw [gu_half_up, if_pos (by decide +kernel), Bool.eq_iff_iff]
      simp only [Bool.and_eq_true, decide_eq_true_eq]
      omega
    · rw [gu_half_down, if_neg (by decide +kernel), if_pos (by decide +kernel), Bool.eq_iff_iff]
      simp only [Bool.and_eq_true, decide_eq_true_eq]
      omega
    · rw [gu_half_even, if_pos (by decide +kernel), Bool.eq_iff_iff]
      simp only [Bool.and_eq_true, Bool.or_eq_true, decide_eq_true_eq]
      omega
    · rw [gu_05up, if_neg (by decide +kernel), if_neg (by decide +kernel), show upW "05up" s = false from by rcases hs with rfl | rfl <;> decide +kernel, Bool.and_false, decide_eq_false m5, Bool.and_false]
  · have hg : g < 0 := gap.2 hqq
    rw [decide_eq_false hqq, Bool.false_and, decide_eq_false (show ¬ u ≤ 2 * g by omega), decide_eq_false (show ¬ u < 2 * g by omega), decide_eq_false (show ¬ 0 < 2 * g by omega), Bool.false_and]
    split
    · rfl
    · split <;> rfl
theorem pow10_mod (p : Nat) (h : 1 ≤ p) : (10 : Int) ^ p % 2 = 0 ∧ (10 : Int) ^ p % 5 = 0 := by
  obtain ⟨k, rfl⟩ : ∃ k, p = k + 1 := ⟨p - 1, by omega⟩
  rw [Int.pow_succ]
  omega
/-- how much is left: bounds, and the carry -/
theorem left_bounds0 {r : Ru} {s c e : Int} (c0 : 0 ≤ c) (p1 : 1 ≤ r.prec) (hc : 0 < c) (hcut : e < max r.etiny (e + nd c - 1 - r.prec + 1)) :
    0 ≤ roundL r.rnd s c (max r.etiny (e + nd c - 1 - r.prec + 1) - e) ∧ roundL r.rnd s c (max r.etiny (e + nd c - 1 - r.prec + 1) - e) ≤ 10 ^ r.prec.toNat ∧
    (e + nd c - 1 < r.emin → roundL r.rnd s c (max r.etiny (e + nd c - 1 - r.prec + 1) - e) < 10 ^ r.prec.toNat) ∧
    (r.prec < nd (roundL r.rnd s c (max r.etiny (e + nd c - 1 - r.prec + 1) - e)) ↔ roundL r.rnd s c (max r.etiny (e + nd c - 1 - r.prec + 1) - e) = 10 ^ r.prec.toNat) := by
  have hn := roundL_nonneg (rn := r.rnd) (s := s) (cut := max r.etiny (e + nd c - 1 - r.prec + 1) - e) c0
  have e1 : r.etiny = r.emin - r.prec + 1 := rfl
  have hr := roundL_eq (rn := r.rnd) (s := s) (cut := max r.etiny (e + nd c - 1 - r.prec + 1) - e) c0 (by omega)
  have hlast : (e + nd c - 1 < r.emin ∧ max r.etiny (e + nd c - 1 - r.prec + 1) = r.etiny) ∨ (r.emin ≤ e + nd c - 1 ∧ max r.etiny (e + nd c - 1 - r.prec + 1) = e + nd c - 1 - r.prec + 1) := by omega
  generalize max r.etiny (e + nd c - 1 - r.prec + 1) = last at *
  have up : roundL r.rnd s c (last - e) ≤ c / 10 ^ (last - e).toNat + 1 := by
    rw [hr]
    split <;> omega
  have hP : (10 : Int) ^ r.prec.toNat = 10 ^ (r.prec.toNat - 1) * 10 := by
    rw [← Int.pow_succ]
    congr 1
    omega
  have hQ := pow10_pos (r.prec.toNat - 1)
  have b : roundL r.rnd s c (last - e) ≤ 10 ^ r.prec.toNat ∧ (e + nd c - 1 < r.emin → roundL r.rnd s c (last - e) < 10 ^ r.prec.toNat) := by
    rcases hlast with ⟨h1, h2⟩ | ⟨h1, h2⟩
    · have := div_lt (k := r.prec.toNat - 1) (cut := (last - e).toNat) c0 (by omega)
      constructor
      · omega
      · intro _
        omega
    · have := div_lt (k := r.prec.toNat) (cut := (last - e).toNat) c0 (by omega)
      constructor
      · omega
      · intro h
        omega
  refine ⟨hn, b.1, b.2, fun h => ?_, fun h => ?_⟩
  · rcases Int.lt_or_le (roundL r.rnd s c (last - e)) (10 ^ r.prec.toNat) with h3 | h3
    · have := nd_le (k := r.prec.toNat) (by omega) hn h3
      omega
    · omega
  · rw [h]
    have := nd_gt (x := (10 : Int) ^ r.prec.toNat) (k := r.prec.toNat) (Int.le_refl _)
    omega
theorem left_bounds {r : Ru} {s c e : Int} (f : FitQ r s c e) (hc : 0 < c) (hcut : e < max r.etiny (e + nd c - 1 - r.prec + 1)) :
    0 ≤ roundL r.rnd s c (max r.etiny (e + nd c - 1 - r.prec + 1) - e) ∧ roundL r.rnd s c (max r.etiny (e + nd c - 1 - r.prec + 1) - e) ≤ 10 ^ r.prec.toNat ∧
    (e + nd c - 1 < r.emin → roundL r.rnd s c (max r.etiny (e + nd c - 1 - r.prec + 1) - e) < 10 ^ r.prec.toNat) ∧
    (r.prec < nd (roundL r.rnd s c (max r.etiny (e + nd c - 1 - r.prec + 1) - e)) ↔ roundL r.rnd s c (max r.etiny (e + nd c - 1 - r.prec + 1) - e) = 10 ^ r.prec.toNat) := left_bounds0 f.c0 f.p1 hc hcut
end Tw

namespace Tw
open PySem L2
/-! ### the four ends of a finished number, as the law parts them -/
theorem isOver_iff {r : Ru} {s c e : Int} (f : FitQ r s c e) (hw : D.str r.rnd ∈ rdsD) (hc : 0 < c) :
    isOver r s c e = true ↔ (r.emax < e + nd c - 1 ∨ (e + nd c - 1 = r.emax ∧ e < r.etop ∧ roundL r.rnd s c (r.etop - e) = 10 ^ r.prec.toNat)) := by
  have et : r.etop = r.emax - r.prec + 1 := rfl
  rw [et]
  unfold isOver
  by_cases h : e + nd c - 1 ≠ r.emax ∨ r.emax - r.prec + 1 - e ≤ 0
  · rw [if_pos h]
    simp only [decide_eq_true_eq]
    omega
  · rw [if_neg h]
    have p1 := f.p1
    have hu := pow10_pos (r.emax - r.prec + 1 - e).toNat
    have m := pow10_mod r.prec.toNat (by omega)
    have hq := div_lt (k := r.prec.toNat) (cut := (r.emax - r.prec + 1 - e).toNat) f.c0 (by omega)
    have o := overC (rn := r.rnd) (s := s) (c := c) hw f.sg hu (Int.emod_nonneg c (by omega)) (Int.emod_lt_of_pos c hu) (by have := Int.emod_add_mul_ediv c (10 ^ (r.emax - r.prec + 1 - e).toNat); omega) hq m.1 m.2 rfl
    rw [o, roundL_eq f.c0 (by omega)]
    simp only [decide_eq_true_eq]
    constructor
    · intro h2
      exact Or.inr ⟨by omega, by omega, h2⟩
    · rintro (h2 | ⟨_, _, h2⟩)
      · omega
      · exact h2
theorem sigs_cut : ∀ inex small zero : Bool, sigs (cutW inex small zero) = (if zero = true then (["Clamped"] : List Str) else []) ++ ((if inex = true then (["Inexact"] : List Str) else []) ++ ((["Rounded"] : List Str) ++ ((if small = true then (["Subnormal"] : List Str) else []) ++ (if (small && inex) = true then (["Underflow"] : List Str) else [])))) := by decide +kernel
theorem sigs_cutD (inex small zero : Bool) : (sigs (cutW inex small zero)).map D.str = optL zero [.str "Clamped"] ++ optL inex [.str "Inexact"] ++ [.str "Rounded"] ++ optL small [.str "Subnormal"] ++ optL (small && inex) [.str "Underflow"] := by
  rw [sigs_cut]
  cases inex <;> cases small <;> cases zero <;> rfl
theorem sigs_cutS : ∀ inex small zero : Bool, (sigs (cutW inex small zero)).all PyData.strOk = true := by decide +kernel
theorem sigs_over : sigs (["Overflow", "Inexact", "Rounded"] : List Str) = (["Inexact", "Overflow", "Rounded"] : List Str) := by decide +kernel
theorem roundL_far {rn : Str} {s c cut : Int} (hc : 0 < c) (h : nd c + 1 < cut) : roundL rn s c cut = roundL rn s 1 2 ∧ cutInex c cut = cutInex 1 2 := by
  have n1 : nd 1 = 1 := by decide +kernel
  unfold roundL cutInex cutLeft cutSide
  rw [n1, if_neg (show ¬ cut ≤ nd c by omega), if_neg (show ¬ cut ≤ nd c by omega), if_neg (show ¬ cut ≤ nd c by omega), if_neg (show ¬ (2 : Int) ≤ 1 by omega), if_neg (show ¬ (2 : Int) ≤ 1 by omega), if_neg (show ¬ (2 : Int) ≤ 1 by omega), decide_eq_true hc, decide_eq_true (show (0 : Int) < 1 by omega)]
  exact ⟨rfl, rfl⟩
/-- where too many digits stand and it is not too great: the cut number -/
theorem fin_cut {r : Ru} {s c e : Int} (f : FitQ r s c e) (hw : D.str r.rnd ∈ rdsD) (hc : 0 < c) (ho : isOver r s c e = false) (hl : e < max r.etiny (e + nd c - 1 - r.prec + 1)) :
    ∃ fc fe zs left inex, (finP r s c e).told = .tup [.dec ⟨s, fc, .fin fe⟩, .tup (zs.map D.str)] ∧ CutOk r s c e fc fe left (max r.etiny (e + nd c - 1 - r.prec + 1)) inex zs := by
  obtain ⟨b1, b2, b3, b4⟩ := left_bounds f hc hl
  have p1 := f.p1
  have c1 := f.c1
  have l := f.l
  have h := f.h
  have et : r.etop = r.emax - r.prec + 1 := rfl
  have ei : r.etiny = r.emin - r.prec + 1 := rfl
  have hno : ¬ (r.emax < e + nd c - 1 ∨ (e + nd c - 1 = r.emax ∧ e < r.etop ∧ roundL r.rnd s c (r.etop - e) = 10 ^ r.prec.toNat)) := by
    rw [← isOver_iff f hw hc, ho]
    decide
  have ht : max r.etiny (e + nd c - 1 - r.prec + 1) = r.etop → e + nd c - 1 = r.emax ∨ (e + nd c - 1 < r.emin) := by omega
  have ht2 : e + nd c - 1 = r.emax → max r.etiny (e + nd c - 1 - r.prec + 1) = r.etop := by omega
  have ht3 : r.emin ≤ e + nd c - 1 → max r.etiny (e + nd c - 1 - r.prec + 1) = e + nd c - 1 - r.prec + 1 := by omega
  have nr := near_roundL (r := r) (s := s) (c := c) (cut := max r.etiny (e + nd c - 1 - r.prec + 1) - e) hw f.sg f.c0 (by omega)
  have nf := near_roundL (r := r) (s := s) (c := 1) (cut := 2) hw f.sg (by omega) (by omega)
  have far := roundL_far (rn := r.rnd) (s := s) (c := c) (cut := max r.etiny (e + nd c - 1 - r.prec + 1) - e) hc
  have e1 : finP r s c e = finCut r s c e (max r.etiny (e + nd c - 1 - r.prec + 1)) := by
    unfold finP
    rw [if_neg (show ¬ c = 0 by omega), if_neg (show ¬ e + nd c - 1 > r.emax by omega), if_pos hl]
  rw [e1]
  generalize hlast : max r.etiny (e + nd c - 1 - r.prec + 1) = last at *
  have N1 : last - e ≤ nd c + 1 → NearOk r s (roundL r.rnd s c (last - e)) last (cutInex c (last - e)) c e := fun h =>
    ⟨by omega, by omega, Nat.lt_of_lt_of_le f.str.2.2.2 (Nat.pow_le_pow_right (by decide) (by decide)), nr.1, nr.2⟩
  have N2 : nd c + 1 < last - e → NearOk r s (roundL r.rnd s c (last - e)) last (cutInex c (last - e)) 1 (last - 2) := fun h => by
    rw [(far h).1, (far h).2]
    have e2 : last - (last - 2) = 2 := by omega
    refine ⟨by omega, by omega, ?_, ?_, ?_⟩
    · decide +kernel
    · rw [e2]
      exact nf.1
    · rw [e2]
      exact nf.2
  unfold finCut
  by_cases hb : nd (roundL r.rnd s c (last - e)) > r.prec
  · rw [if_pos hb]
    have hq := b4.mp hb
    have hs : r.emin ≤ e + nd c - 1 := by
      rcases Int.lt_or_le (e + nd c - 1) r.emin with h5 | h5
      · have := b3 h5
        omega
      · exact h5
    have hlt : ¬ last + 1 > r.etop := by
      intro h6
      have h7 := ht3 hs
      have h8 : e + nd c - 1 = r.emax := by omega
      have h9 := ht2 h8
      rw [h9] at hq hl
      exact hno (Or.inr ⟨h8, hl, hq⟩)
    have hd : roundL r.rnd s c (last - e) / 10 = 10 ^ (r.prec - 1).toNat := by
      rw [hq, show r.prec.toNat = (r.prec - 1).toNat + 1 by omega, Int.pow_succ, Int.mul_ediv_cancel _ (by decide)]
    rw [if_neg hlt]
    refine ⟨_, _, _, roundL r.rnd s c (last - e), cutInex c (last - e), rfl, ?_⟩
    refine ⟨fun z hz => List.all_eq_true.mp (sigs_cutS _ _ _) z hz, f, b1, b2, Or.inr ⟨rfl, hd, hq, hs⟩, N1, N2, sigs_cutD _ _ _⟩
  · rw [if_neg hb]
    refine ⟨_, _, _, roundL r.rnd s c (last - e), cutInex c (last - e), rfl, ?_⟩
    have hne : roundL r.rnd s c (last - e) ≠ 10 ^ r.prec.toNat := fun h => hb (b4.mpr h)
    refine ⟨fun z hz => List.all_eq_true.mp (sigs_cutS _ _ _) z hz, f, b1, b2, Or.inl ⟨rfl, rfl, by omega⟩, N1, N2, sigs_cutD _ _ _⟩
/-- too great -/
theorem fin_over {r : Ru} {s c e : Int} (f : FitQ r s c e) (hw : D.str r.rnd ∈ rdsD) (hc : 0 < c) (ho : isOver r s c e = true) : finP r s c e = over r s := by
  have p1 := f.p1
  have l := f.l
  have h := f.h
  have et : r.etop = r.emax - r.prec + 1 := rfl
  have ei : r.etiny = r.emin - r.prec + 1 := rfl
  unfold finP
  rw [if_neg (show ¬ c = 0 by omega)]
  rcases (isOver_iff f hw hc).mp ho with h1 | ⟨h1, h2, h3⟩
  · rw [if_pos h1]
  · have h4 : max r.etiny (e + nd c - 1 - r.prec + 1) = r.etop := by omega
    have b4 := (left_bounds f hc (by omega)).2.2.2
    rw [if_neg (show ¬ e + nd c - 1 > r.emax by omega), h4, if_pos h2]
    rw [h4] at b4
    unfold finCut
    rw [if_pos (b4.mpr h3), if_pos (show r.etop + 1 > r.etop by omega)]
/-- none cut off -/
theorem fin_all {r : Ru} {s c e : Int} (f : FitQ r s c e) (hw : D.str r.rnd ∈ rdsD) (hc : 0 < c) (ho : isOver r s c e = false) (hl : ¬ e < max r.etiny (e + nd c - 1 - r.prec + 1)) : e ≤ r.emax ∧
    finP r s c e = if r.clamp = 1 ∧ r.etop < e then ⟨.dec ⟨s, c * 10 ^ (e - r.etop).toNat, .fin r.etop⟩, (if e + nd c - 1 < r.emin then (["Subnormal"] : List Str) else []) ++ (["Clamped"] : List Str)⟩ else ⟨.dec ⟨s, c, .fin e⟩, if e + nd c - 1 < r.emin then ["Subnormal"] else []⟩ := by
  have hno : ¬ (r.emax < e + nd c - 1 ∨ (e + nd c - 1 = r.emax ∧ e < r.etop ∧ roundL r.rnd s c (r.etop - e) = 10 ^ r.prec.toNat)) := by
    rw [← isOver_iff f hw hc, ho]
    decide
  have hp := nd_pos c
  refine ⟨by omega, ?_⟩
  unfold finP
  rw [if_neg (show ¬ c = 0 by omega), if_neg (show ¬ e + nd c - 1 > r.emax by omega), if_neg hl]
theorem strOk_all {zs : List Str} (h : zs.all PyData.strOk = true) : ∀ z ∈ zs, PyData.strOk z = true := fun z hz => List.all_eq_true.mp h z hz
/-- the least of the exponent and the greatest one, where exponents are clamped -/
def goalE (r : Ru) (e : Int) : Int := if r.clamp = 1 then min e r.etop else e
structure ToldOk (r : Ru) (s c e : Int) (a : Dc) (zs : List Str) : Prop where
  st : ∀ z ∈ zs, PyData.strOk z = true
  z : c = 0 → a = ⟨s, 0, .fin (zExp r e)⟩ ∧ zs.map D.str = optL (!decide (zExp r e = e)) [.str "Clamped"]
  o : 0 < c → isOver r s c e = true → (.tup [.int a.s, .int a.c, a.e.d] : D) = mostD r s ∧ zs = (["Inexact", "Overflow", "Rounded"] : List Str)
  k : 0 < c → isOver r s c e = false → e < max r.etiny (e + nd c - 1 - r.prec + 1) → ∃ fc fe left inex, a = ⟨s, fc, .fin fe⟩ ∧ CutOk r s c e fc fe left (max r.etiny (e + nd c - 1 - r.prec + 1)) inex zs
  w : 0 < c → isOver r s c e = false → ¬ e < max r.etiny (e + nd c - 1 - r.prec + 1) → e ≤ r.emax ∧ a = ⟨s, c * 10 ^ (e - goalE r e).toNat, .fin (goalE r e)⟩ ∧ zs.map D.str = optL (!decide (goalE r e = e)) [.str "Clamped"] ++ optL (decide (e + nd c - 1 < r.emin)) [.str "Subnormal"]
theorem fin_told {r : Ru} {s c e : Int} (f : FitQ r s c e) (hw : D.str r.rnd ∈ rdsD) : ∃ a zs, (finP r s c e).told = .tup [.dec a, .tup (zs.map D.str)] ∧ ToldOk r s c e a zs := by
  have c0 := f.c0
  by_cases hc : c = 0
  · refine ⟨⟨s, 0, .fin (zExp r e)⟩, sigs (zWords r e), ?_, ?_⟩
    · unfold finP
      rw [if_pos hc]
      rfl
    · have e1 : sigs (zWords r e) = if zExp r e = e then [] else (["Clamped"] : List Str) := by
        unfold zWords
        split
        · decide +kernel
        · decide +kernel
      rw [e1]
      refine ⟨?_, fun _ => ⟨rfl, ?_⟩, fun h => by omega, fun h => by omega, fun h => by omega⟩
      · refine strOk_all ?_
        split
        · decide +kernel
        · decide +kernel
      · by_cases h : zExp r e = e
        · rw [if_pos h, decide_eq_true h]
          rfl
        · rw [if_neg h, decide_eq_false h]
          rfl
  · have hc1 : 0 < c := by omega
    cases ho : isOver r s c e with
    | true =>
      refine ⟨if toInf r s = true then ⟨s, 0, .inf⟩ else ⟨s, 10 ^ r.prec.toNat - 1, .fin r.etop⟩, (["Inexact", "Overflow", "Rounded"] : List Str), ?_, ?_⟩
      · rw [fin_over f hw hc1 ho]
        unfold Out.told over
        rw [sigs_over]
      · refine ⟨strOk_all (by decide +kernel), fun h => absurd h hc, fun _ _ => ⟨?_, rfl⟩, (fun _ h => by rw [ho] at h; cases h), (fun _ h => by rw [ho] at h; cases h)⟩
        unfold mostD
        split <;> rfl
    | false =>
      by_cases hl : e < max r.etiny (e + nd c - 1 - r.prec + 1)
      · obtain ⟨fc, fe, zs, left, inex, h1, h2⟩ := fin_cut f hw hc1 ho hl
        exact ⟨_, zs, h1, h2.st, fun h => absurd h hc, (fun _ h => by rw [ho] at h; cases h), fun _ _ _ => ⟨fc, fe, left, inex, rfl, h2⟩, fun _ _ h => absurd hl h⟩
      · obtain ⟨he, h1⟩ := fin_all f hw hc1 ho hl
        have d1 : sigs (["Subnormal", "Clamped"] : List Str) = (["Clamped", "Subnormal"] : List Str) ∧ sigs (["Clamped"] : List Str) = (["Clamped"] : List Str) ∧ sigs (["Subnormal"] : List Str) = (["Subnormal"] : List Str) ∧ sigs [] = [] := by decide +kernel
        refine ⟨⟨s, c * 10 ^ (e - goalE r e).toNat, .fin (goalE r e)⟩, (if goalE r e = e then [] else (["Clamped"] : List Str)) ++ (if e + nd c - 1 < r.emin then (["Subnormal"] : List Str) else []), ?_, ?_, fun h => absurd h hc, (fun _ h => by rw [ho] at h; cases h), fun _ _ h => absurd h hl, fun _ _ _ => ⟨he, rfl, ?_⟩⟩
        · rw [h1]
          by_cases hg : r.clamp = 1 ∧ r.etop < e
          · have e2 : goalE r e = r.etop := by
              unfold goalE
              rw [if_pos hg.1]
              omega
            rw [if_pos hg, e2, if_neg (show ¬ r.etop = e by omega)]
            unfold Out.told
            split
            · show D.tup [_, .tup ((sigs (["Subnormal", "Clamped"] : List Str)).map D.str)] = _
              rw [d1.1]
              rfl
            · show D.tup [_, .tup ((sigs (["Clamped"] : List Str)).map D.str)] = _
              rw [d1.2.1]
              rfl
          · have e2 : goalE r e = e := by
              unfold goalE
              split
              · omega
              · rfl
            rw [if_neg hg, e2, if_pos rfl, Int.sub_self, show c * 10 ^ (0 : Int).toNat = c from Int.mul_one c]
            unfold Out.told
            split
            · show D.tup [_, .tup ((sigs (["Subnormal"] : List Str)).map D.str)] = _
              rw [d1.2.2.1]
              rfl
            · show D.tup [_, .tup ((sigs []).map D.str)] = _
              rw [d1.2.2.2]
              rfl
        · refine strOk_all ?_
          split <;> split <;> decide +kernel
        · by_cases h4 : goalE r e = e
          · rw [if_pos h4, decide_eq_true h4]
            by_cases h5 : e + nd c - 1 < r.emin
            · rw [if_pos h5, decide_eq_true h5]
              rfl
            · rw [if_neg h5, decide_eq_false h5]
              rfl
          · rw [if_neg h4, decide_eq_false h4]
            by_cases h5 : e + nd c - 1 < r.emin
            · rw [if_pos h5, decide_eq_true h5]
              rfl
            · rw [if_neg h5, decide_eq_false h5]
              rfl
theorem shp_parts (a : Dc) : shp (.tup [.int a.s, .int a.c, a.e.d]) := by
  have h1 : PyData.strOk ("F" : Str) = true := by decide +kernel
  have h2 : PyData.strOk ("n" : Str) = true := by decide +kernel
  have h3 : PyData.strOk ("N" : Str) = true := by decide +kernel
  obtain ⟨s, c, e⟩ := a
  cases e
  · exact ⟨rfl, rfl⟩
  · refine ⟨rfl, ?_⟩
    show SeqAt.shaped (.tuple [.int s, .int c, .str "F"]) = true
    simp [SeqAt.shaped, PyData.canLay0, PyData.canLayAll0, PyData.depth, PyData.depthAll, h1]
  · refine ⟨rfl, ?_⟩
    show SeqAt.shaped (.tuple [.int s, .int c, .str "n"]) = true
    simp [SeqAt.shaped, PyData.canLay0, PyData.canLayAll0, PyData.depth, PyData.depthAll, h2]
  · refine ⟨rfl, ?_⟩
    show SeqAt.shaped (.tuple [.int s, .int c, .str "N"]) = true
    simp [SeqAt.shaped, PyData.canLay0, PyData.canLayAll0, PyData.depth, PyData.depthAll, h3]
end Tw

namespace Tw
open PySem L2
/-! ### the flags of an owned context are set -/
def dCSet (pa pv : DE) : DS := fun G ρ O => pv ρ O fun d O1 => pa ρ O1 fun x O2 => ∃ a r cap trp flg, x = .ref a ∧ O2 a = some (.ctx r cap trp flg) ∧ ∃ zs, d = .lst (zs.map D.str) ∧ G.nx ρ (updO O2 a (.ctx r cap trp zs))
section
variable {X : Cx} {o value : Expr} {pos pos' : Pos} {pa pv : DE}
theorem qs_cset (cl : Cls X.K (He.ga X.K "Context")) (na : NoAttr X.K (He.ga X.K "Context") "raised") (ha : PE X o (tD X.K pa)) (hv : PE X value (tD X.K pv)) (hs : swapsWith value (some (.Attribute o "raised" pos')) pos.line X.env = pure false := by rfl) : PS X (.Assign [.Attribute o "raised" pos'] value pos) (sX X.K W (dCSet pa pv)) := PS.imp (ps_fld ha hv hs) fun E σ H x => by
  obtain ⟨ρ, F, O, G, er, ho, hp, k⟩ := x
  refine ⟨ρ, F, O, _, er, ho, hp, fun d O1 y F1 H1 q1 s1 r1 => ?_⟩
  refine ⟨ρ, F1, O1, _, er.mono s1.same, s1.hold, q1, fun x O2 v F2 H2 q2 s2 r2 => ?_⟩
  obtain ⟨a, r, cap, trp, flg, rfl, h1, zs, rfl, q⟩ := q2
  have r1' := r1.mono s2.same
  cases r2
  obtain ⟨_, o, h2, dx, rv, atr, ara, rfl, h3, h3a, h3b⟩ := s2.hold.own a _ h1
  obtain ⟨p, rfl⟩ : ∃ p, y = .ref p := by
    cases r1
    exact ⟨_, rfl⟩
  refine ⟨a, _, dx, _, rfl, h2, cl, na, (by decide : 9 < 1000), ?_⟩
  have s3 := s2.hold.put h1 (m := .ctx r cap trp zs) (o := .ins (He.ga X.K "Context") dx (ctxF atr p r cap rv)) ⟨dx, rv, atr, p, rfl, h3, h3a, r1'⟩
  exact k.nx _ _ _ _ _ q ((s1.tr s2).tr s3) ((er.mono s1.same).mono s2.same)
end
/-! ### a comprehension over a tuple of the module -/
def dLcK (ds : List D) (j : Nat) (t : DT) (p : DE) : DE := fun ρ O P => ds.length ≤ 90000 ∧ dComp ds j t p ρ O P
theorem lcK_imp {K : PySem.W.Frag} {a : Addr} {vs : List V} {j : Nat} {t : DT} {p : DE} (hx : ∀ H, SqT K H a vs) (hf : vs.all flatV = true) : ∀ σ H Q, tD K (dLcK (vs.map vD) j t p) σ H Q → tLc (iTup K (tC (.ref a))) (gName j) (tT K t) (tD K p) [j] σ H Q := fun σ H Q x => by
  obtain ⟨ρ, F, O, P, er, ho, ⟨hz, ht⟩, k⟩ := x
  obtain ⟨rr, _⟩ := reps_vD (K := K) (F := F) hf
  refine ⟨a, rfl, ⟨vs, hx H⟩, comp_imp er (Stp.rfl ho) k hz (fun i F2 O2 H2 hi s2 => ?_) (fun F2 O2 H2 s2 => ?_) (fun i d F2 O2 H2 x H3 hi s2 y => ?_) ht⟩
  · have hv : i < vs.length := by rw [rr.length]; exact hi
    exact ⟨vs, vs[i], hx H2, List.getElem?_eq_getElem hv⟩
  · exact ⟨vs, hx H2, by rw [rr.length]; exact Nat.le_refl _⟩
  · obtain ⟨e, y⟩ := y
    subst e
    have hx := y vs (hx _)
    obtain ⟨d', h1, h2⟩ := rr.getV hx
    rw [hi] at h1
    cases h1
    exact ⟨rfl, h2⟩
section
variable {X : Cx} {st : Stmt} {i j : Nat} {t : DT} {p : DE} {a : Addr} {vs : List V}
theorem qs_lcK (hx : ∀ H, SqT X.K H a vs) (h : PS X st (tAsg (tLc (iTup X.K (tC (.ref a))) (gName j) (tT X.K t) (tD X.K p) [j]) (gName i))) (hf : vs.all flatV = true := by rfl) : PS X st (sX X.K W (dAsg (dLcK (vs.map vD) j t p) (eName i))) := PS.imp h (set_imp (lcK_imp hx hf))
end
/-! ### dicts of texts: x in d, list(d) -/
def rInDct : R2 := fun x y H Q => ∃ a z kvs, x = .str z ∧ y = .ref a ∧ Rd H a (.dK kvs) ∧ Q (.bl (valV kvs (Sum.inr z)).isSome) H
theorem op_inDct {X : Cx} : OpR X (compareOp .In) rInDct := by
  intro pins s σ H x y v u Q I rx ry h
  obtain ⟨a, z, kvs, rfl, rfl, e, q⟩ := h
  cases ry
  obtain ⟨_, hd, vs, rel, dd⟩ := dk_rd I.hok e
  refine wpAny_in_of (kV_is (k := Sum.inr z) rx) hd dd.mapOf ?_
  rw [← (rel.val (Sum.inr z)).isSome_eq]
  exact ⟨.bl _, H, I.tok _, rfl, q⟩
def hasK (ps : List (Str × D)) (z : Str) : Bool := ps.any fun p => decide (p.1 = z)
def fInDct : D → D → Ow → DK → Prop := fun d1 d2 O P => ∃ z ps, d1 = .str z ∧ d2 = .dct ps ∧ P (.bl (hasK ps z)) O
theorem r_inDct {K : PySem.W.Frag} : ROp K rInDct fInDct := fun F O H v1 d1 v2 d2 P Q r1 r2 ho h k => by
  obtain ⟨z, ps, rfl, rfl, hp⟩ := h
  cases r1
  cases r2 with
  | dct q1 q2 =>
    rename_i kvs
    refine ⟨_, z, kvs, rfl, rfl, .inl (ho.sub _ _ q1), ?_⟩
    have e : (valV kvs (Sum.inr z)).isSome = hasK ps z := by
      unfold valV hasK
      rw [← q2.any (z := z), Option.isSome_map, Bool.eq_iff_iff, List.find?_isSome, List.any_eq_true]
    rw [e]
    exact k _ O _ F H hp (Stp.rfl ho) (.bl _)
def fListD : List D → Ow → DK → Prop := fun ds O P => ∃ ps, ds = [.dct ps] ∧ P (.lst (ps.map fun p => .str p.1)) O
theorem c_listD {K : PySem.W.Frag} : RCl K (fun xs H Q => ∃ (a : Addr) (kvs : List (Key × V)), xs = [.ref a] ∧ Rd H a (.dK kvs) ∧ ∀ p, H p = none → Q (.ref p) (upd H p (.lst (kvs.map fun kv => kV kv.1)))) fListD := fun F O H vs ds P Q r ho h k => by
  obtain ⟨ps, rfl, hp⟩ := h
  obtain ⟨v, rfl, q⟩ := r.one
  cases q with
  | dct q1 q2 =>
    refine ⟨_, _, rfl, .inl (ho.sub _ _ q1), fun p np => ?_⟩
    rename_i kvs
    have e : (kvs.map fun kv => kV kv.1) = (ps.map (·.1)).map V.str := by
      have h := congrArg (List.map kV) q2.keys
      rw [List.map_map, List.map_map] at h
      rw [show (kvs.map fun kv => kV kv.1) = kvs.map (kV ∘ fun x => x.1) from rfl, h]
      rfl
    rw [e, show (ps.map fun p => D.str p.1) = (ps.map (·.1)).map D.str by rw [List.map_map]; rfl] at *
    exact k _ O _ _ _ hp (ho.new np) (.lst upd_same (Reps.of_strs _))
end Tw

namespace Tw
open PySem L2
/-! ### slices of tuples -/
def fSlT : D → Option Int → Option Int → Ow → DK → Prop := fun d l u O P => ∃ xs, d = .tup xs ∧ P (.tup (cutL xs l u)) O
theorem cutL_all {α : Type} {xs : List α} {l u : Option Int} (h : HT.sIx xs.length 0 l = 0 ∧ HT.sIx xs.length xs.length u = xs.length) : cutL xs l u = xs := by
  unfold cutL
  rw [h.1, h.2, Nat.sub_zero, List.drop_zero, List.take_length]
theorem r_slT {K : PySem.W.Frag} : RSl K (rSlA K) fSlT := fun F O H v d l u P Q r ho h k => by
  obtain ⟨xs, rfl, hp⟩ := h
  cases r with
  | tup q1 q2 =>
    rename_i p vs
    refine ⟨p, vs, rfl, (q1.sq ho.sub), fun hw => ?_, fun _ p np => k _ O _ _ _ hp (ho.new np) (.tup (.inl upd_same) ((cut_reps q2 l u).mono (ho.new np).same))⟩
    rw [q2.length] at hw
    rw [cutL_all hw] at hp
    exact k.now ho (.tup q1 q2) hp
/-- a slice of a tuple of the module -/
def dSlK (ds : List D) (lo hi : DO) : DE := fun ρ O P => lo ρ O fun l O1 => hi ρ O1 fun u O2 => ¬ (HT.sIx ds.length 0 l = 0 ∧ HT.sIx ds.length ds.length u = ds.length) ∧ P (.tup (cutL ds l u)) O2
section
variable {X : Cx} {e : Expr} {lo hi : Option Expr} {pl ph : DO} {pos p2 : Pos} {a : Addr} {vs : List V}
theorem q_sliceK (hx : ∀ H, SqT X.K H a vs) (he : PE X e (tC (.ref a))) (hl : PO X lo (tO X.K pl)) (hu : PO X hi (tO X.K ph)) (hf : vs.all flatV = true := by rfl) : PE X (.Subscript e (.Slice lo hi none p2) pos) (tD X.K (dSlK (vs.map vD) pl ph)) := PE.imp (pe_slice sl_tup he hl hu) fun σ H Q x => by
  obtain ⟨ρ, F, O, P, er, ho, hp, k⟩ := x
  refine ⟨ρ, F, O, _, er, ho, hp, fun l O2 F2 H2 q2 s2 => ?_⟩
  refine ⟨ρ, F2, O2, _, er.mono s2.same, s2.hold, q2, fun u O3 F3 H3 q3 s3 => ?_⟩
  obtain ⟨hw, q3⟩ := q3
  rw [List.length_map] at hw
  obtain ⟨rr, _⟩ := reps_vD (K := X.K) (F := F3) hf
  exact ⟨a, vs, rfl, hx _, hw, fun p np => k _ O3 _ _ _ q3 ((s2.tr s3).tr (s3.hold.new np)) (.tup (.inl upd_same) ((cut_reps rr l u).mono (s3.hold.new np).same))⟩
end
/-! ### a, b, .. = a list -/
def eUnl (n : Nat) (h : DGs) : DG := fun d ρ O P => ∃ ds, d = .lst ds ∧ ds.length = n ∧ h ds ρ O P
theorem qg_unl {X : Cx} {es : List Expr} {pos : Pos} {k1 : Nat} {h : DGs} {n : Nat} (hc : X.calm = true) (h1 : PGs X es (tGs X.K h)) (hn : (assignEach es X.env).length = n := by rfl) (hst : (assignEach es X.env).findIdx? (·.1) = none := by rfl) : PG X (.Tuple es k1 pos) (tG X.K (eUnl n h)) := PG.imp (pg_lst hc h1 hn hst) fun v σ H Q x => by
  obtain ⟨d, ρ, F, O, P, r, er, ho, ⟨ds, rfl, hl, hp⟩, k⟩ := x
  cases r with
  | lst hf rr => exact ⟨_, _, rfl, SqL.of (ho.sub _ _ hf), by rw [rr.length]; exact hl, ds, ρ, F, O, P, rr, er, ho, hp, k⟩
/-! ### two promises of one def -/
def gOr (g1 g2 : List D → Ow → DK → Prop) : List D → Ow → DK → Prop := fun ds O P => g1 ds O P ∨ g2 ds O P
theorem orP {P : Program} {w : World} {K : PySem.W.Frag} {mg : Str → Option Value} {base : Heap} {CX : CXT} {k : Nat} {f : Addr} {fd : FuncData} {ps : List Str} {g1 g2 : List D → Ow → DK → Prop} (F1 : FnOk P w K mg base CX k f fd ps (spP K g1)) (F2 : FnOk P w K mg base CX k f fd ps (spP K g2)) : FnOk P w K mg base CX k f fd ps (spP K (gOr g1 g2)) := by
  refine ⟨fun vs H Q E h => ?_, fun A outer s H args us vs Q E hr he hb hv h => ?_⟩
  · obtain ⟨ds, F, O, P, r, ho, hg, k⟩ := h
    rcases hg with hg | hg
    · exact F1.len vs H Q E ⟨ds, F, O, P, r, ho, hg, k⟩
    · exact F2.len vs H Q E ⟨ds, F, O, P, r, ho, hg, k⟩
  · obtain ⟨ds, F, O, P, r, ho, hg, k⟩ := h
    rcases hg with hg | hg
    · exact F1.run A outer s H args us vs Q E hr he hb hv ⟨ds, F, O, P, r, ho, hg, k⟩
    · exact F2.run A outer s H args us vs Q E hr he hb hv ⟨ds, F, O, P, r, ho, hg, k⟩
/-! ### the traps of an owned context are set -/
def dCTrp (pa pv : DE) : DS := fun G ρ O => pv ρ O fun d O1 => pa ρ O1 fun x O2 => ∃ a r cap trp flg, x = .ref a ∧ O2 a = some (.ctx r cap trp flg) ∧ ∃ zs, d = .lst (zs.map D.str) ∧ G.nx ρ (updO O2 a (.ctx r cap zs flg))
theorem qs_ctrp {X : Cx} {o value : Expr} {pos pos' : Pos} {pa pv : DE} (cl : Cls X.K (He.ga X.K "Context")) (na : NoAttr X.K (He.ga X.K "Context") "trapped") (ha : PE X o (tD X.K pa)) (hv : PE X value (tD X.K pv)) (hs : swapsWith value (some (.Attribute o "trapped" pos')) pos.line X.env = pure false := by rfl) : PS X (.Assign [.Attribute o "trapped" pos'] value pos) (sX X.K W (dCTrp pa pv)) := PS.imp (ps_fld ha hv hs) fun E σ H x => by
  obtain ⟨ρ, F, O, G, er, ho, hp, k⟩ := x
  refine ⟨ρ, F, O, _, er, ho, hp, fun d O1 y F1 H1 q1 s1 r1 => ?_⟩
  refine ⟨ρ, F1, O1, _, er.mono s1.same, s1.hold, q1, fun x O2 v F2 H2 q2 s2 r2 => ?_⟩
  obtain ⟨a, r, cap, trp, flg, rfl, h1, zs, rfl, q⟩ := q2
  have r1' := r1.mono s2.same
  cases r2
  obtain ⟨_, o, h2, dx, rv, atr, ara, rfl, h3, h3a, h3b⟩ := s2.hold.own a _ h1
  obtain ⟨p, rfl⟩ : ∃ p, y = .ref p := by
    cases r1
    exact ⟨_, rfl⟩
  refine ⟨a, _, dx, _, rfl, h2, cl, na, (by decide : 9 < 1000), ?_⟩
  have s3 := s2.hold.put h1 (m := .ctx r cap zs flg) (o := .ins (He.ga X.K "Context") dx (ctxF p ara r cap rv)) ⟨dx, rv, p, ara, rfl, h3, r1', h3b⟩
  exact k.nx _ _ _ _ _ q ((s1.tr s2).tr s3) ((er.mono s1.same).mono s2.same)
def g_names_ofL : List D → Ow → DK → Prop := fun ds O P => ∃ d z zs, ds = [d, .str z] ∧ d = .lst (zs.map D.str) ∧ zs.length ≤ 60 ∧ (zs.all fun x => inD (.str x) ordD) = true ∧ P (.lst ((namesS zs).map D.str)) O
def g_set_traps : List D → Ow → DK → Prop := fun ds O P => ∃ a zs, ds = [.ref a, .lst (zs.map D.str)] ∧ ∃ r cap trp flg, O a = some (.ctx r cap trp flg) ∧ zs.length ≤ 60 ∧ (zs.all fun x => inD (.str x) ordD) = true ∧ P .non (updO O a (.ctx r cap (namesS zs) flg))
/-! ### xs.append(e) on an owned list -/
def dApp (pa : DE) (q : DA) : DE := fun ρ O P => pa ρ O fun x O1 => ∃ a ds, x = .ref a ∧ O1 a = some (.lst ds) ∧ q ρ O1 fun es O2 => ∃ d ds2, es = [d] ∧ O2 a = some (.lst ds2) ∧ ds2.length < 100000 ∧ P .non (updO O2 a (.lst (ds2 ++ [d])))
theorem q_append {X : Cx} {o e : Expr} {apos cpos : Pos} {pa : DE} {q : DA} (ho : PE X o (tD X.K pa)) (ha : PA X [e] (tA X.K q)) (hbase : attributeBase o "append" X.env (eval o X.env) = eval o X.env := by rfl)
    (hfew : ((backTo cpos (starEach (e :: []) X.env)).all (fun x => !x.1) && (backToKw cpos (keywordEach [] X.env)).all (fun x => x.1.isSome) && decide ((e :: []).length + ([] : List Keyword).length + (if ([] : List Keyword).isEmpty then 0 else 1) < 30)) = true := by rfl)
    (hline : (apos.endLine == cpos.line) = true := by rfl) (hs : starEach (e :: []) X.env = (false, eval e X.env) :: starEach [] X.env := by rfl) (hplain : (backTo cpos (starEach [] X.env)).any (·.1) = false := by rfl) :
    PE X (.Call (.Attribute o "append" apos) [e] [] cpos) (tD X.K (dApp pa q)) := PE.imp (pe_bm PySem.F.plainAttrs_list PySem.F.slot_list_append PySem.F.type_list_append mt_append ho ha hbase hfew hline hs hplain) fun σ H Q x => by
  obtain ⟨ρ, F, O, P, er, hold, hp, k⟩ := x
  refine ⟨ρ, F, O, _, er, hold, hp, fun x O1 v F1 H1 q1 s1 r1 => ?_⟩
  obtain ⟨a, ds, rfl, h1, q1⟩ := q1
  cases r1
  obtain ⟨_, o, h2, vs, rfl, rr⟩ := s1.hold.own a _ h1
  refine ⟨Or.inl ⟨rfl, vs, SqL.of h2⟩, ?_⟩
  refine ⟨ρ, F1, O1, _, er.mono s1.same, s1.hold, q1, fun es O2 ys F2 H2 q2 s2 r2 => ?_⟩
  obtain ⟨d, ds2, rfl, h3, hl, q2⟩ := q2
  obtain ⟨y, rfl, r3⟩ := r2.one
  obtain ⟨_, o, h4, vs2, rfl, rr2⟩ := s2.hold.own a _ h3
  have hz : (100000 : Nat) ≤ sizeLine := by decide
  refine ⟨a, vs2, y, rfl, rfl, h4, by rw [rr2.length]; omega, ?_⟩
  have s3 := s2.hold.put h3 (m := .lst (ds2 ++ [d])) (o := .lst (vs2 ++ [y])) ⟨_, rfl, rr2.append (.cons r3 .nil)⟩
  exact k _ _ _ _ _ q2 ((s1.tr s2).tr s3) .non
/-! ### a tuple of texts at a known place of the module -/
def strsB : List Str → List Value → Bool
  | [], [] => true
  | z :: zs, .str y _ :: us => decide (y = z) && strsB zs us
  | _, _ => false
theorem strsB_ok : ∀ {zs : List Str} {us : List Value}, strsB zs us = true → Vals (zs.map V.str) us
  | [], [], _ => .nil
  | z :: zs, u :: us, h => by
    cases u with
    | str y t =>
      have h : (decide (y = z) && strsB zs us) = true := h
      rw [Bool.and_eq_true] at h
      have e := of_decide_eq_true h.1
      subst e
      exact .cons ⟨t, rfl⟩ (strsB_ok h.2)
    | _ => cases h
  | [], _ :: _, h => by cases h
  | _ :: _, [], h => by cases h
def tupAB (K : PySem.W.Frag) (a : Addr) (zs : List Str) : Bool := match K.lookup a with
  | some ⟨.type c, _, .seq its _, _⟩ => decide (c = "tuple") && (decide (its.size ≤ sizeLine) && strsB zs its.toList)
  | _ => false
theorem tupAB_ok {K : PySem.W.Frag} {a : Addr} {zs : List Str} (h : tupAB K a zs = true) {F : Hp} : TupAt K F a (zs.map V.str) := by
  unfold tupAB at h
  split at h
  · rename_i c d its n sl e
    rw [Bool.and_eq_true, Bool.and_eq_true] at h
    have e1 := of_decide_eq_true h.1
    subst e1
    exact .inr ⟨_, its, n, e, rfl, rfl, of_decide_eq_true h.2.1, strsB_ok h.2.2⟩
  · cases h
/-! ### xs[i] = e on an owned list -/
theorem Reps.set {K : PySem.W.Frag} {F : Hp} : ∀ {vs : List V} {ds : List D} (j : Nat) {v : V} {d : D}, Reps K F vs ds → Rep K F v d → Reps K F (vs.set j v) (ds.set j d)
  | _, _, _, _, _, .nil, _ => .nil
  | _, _, 0, _, _, .cons _ t, r => .cons r t
  | _, _, j + 1, _, _, .cons h t, r => .cons h (Reps.set j t r)
def eSub (po pi : DE) : DG := fun d ρ O P => po ρ O fun x O1 => pi ρ O1 fun y O2 => ∃ a ds k j, x = .ref a ∧ y = .int k ∧ O2 a = some (.lst ds) ∧ ixN ds.length k = some j ∧ P ρ (updO O2 a (.lst (ds.set j d)))
theorem qg_sub {X : Cx} {e : Expr} {po pi : DE} (h : PG X e (gSub (tD X.K po) (tD X.K pi) rSetL)) : PG X e (tG X.K (eSub po pi)) := PG.imp h fun v σ H Q x => by
  obtain ⟨d, ρ, F, O, P, r, er, hold, hp, k⟩ := x
  refine ⟨ρ, F, O, _, er, hold, hp, fun x O1 u F1 H1 q1 s1 r1 => ?_⟩
  refine ⟨ρ, F1, O1, _, er.mono s1.same, s1.hold, q1, fun y O2 w F2 H2 q2 s2 r2 => ?_⟩
  obtain ⟨a, ds, kk, j, rfl, rfl, h1, hj, q2⟩ := q2
  cases r1
  cases r2
  obtain ⟨_, o, h2, vs, rfl, rr⟩ := s2.hold.own a _ h1
  refine ⟨a, vs, kk, j, rfl, rfl, h2, by rw [rr.length]; exact hj, ?_⟩
  have s3 := s2.hold.put h1 (m := .lst (ds.set j d)) (o := .lst (vs.set j v)) ⟨_, rfl, rr.set j ((r.mono s1.same).mono s2.same)⟩
  exact k _ _ _ _ _ q2 ((s1.tr s2).tr s3) ((er.mono s1.same).mono s2.same)
end Tw

namespace Tw
open PySem L2
/-! ### a comprehension whose list will change -/
def dCompM (ds : List D) (j : Nat) (t : DT) (p : DE) : DE := fun ρ O P => ∃ I : Nat → List D → Ow → Prop, I 0 [] O ∧
  (∀ i d acc O, ds[i]? = some d → acc.length ≤ i → I i acc O → t (ρ.set j (some d)) O fun b O1 => if b = true then p (ρ.set j (some d)) O1 fun y O2 => I (i + 1) (acc ++ [y]) O2 else I (i + 1) acc O1) ∧ ∀ acc O, acc.length ≤ ds.length → I ds.length acc O → ∀ a, O a = none → P (.ref a) (updO O a (.lst acc))
def dLcRM (q : DA) (j : Nat) (t : DT) (p : DE) : DE := fun ρ O P => q ρ O fun ds O1 => ∃ n : Int, ds = [.int n] ∧ -90000 ≤ n ∧ n ≤ 90000 ∧ dCompM (rngD 0 n.toNat) j t p ρ O1 P
section
variable {K : PySem.W.Frag}
theorem lc_finM {F : Hp} {O : Ow} {H : Hp} {Dl : Addr} {I : List D → Ow → Prop} {n : Nat} {H2 : Hp} (hD : H Dl = none) (x : LcInv K F O H Dl I n H2) : ∃ F2 O2 acc, Stp K F O H F2 (updO O2 Dl (.lst acc)) H2 ∧ O2 Dl = none ∧ acc.length ≤ n ∧ I acc O2 := by
  obtain ⟨F2, O2, acc, vs, s2, f2, o2, h2, r2, l2, i2⟩ := x
  refine ⟨F2, O2, acc, ⟨s2.same, s2.hold.own1 f2 h2 ⟨vs, rfl, r2⟩, fun b u g1 g2 g3 => ?_⟩, o2, l2, i2⟩
  have hb : b ≠ Dl := fun z => by rw [z, hD] at g3; cases g3
  obtain ⟨k1, k2, k3⟩ := s2.fr b u g1 g2 g3
  exact ⟨k1, k2, by rw [updO_ne hb]; exact k3⟩
theorem comp_impM {F F1 : Hp} {O O1 : Ow} {H H1 : Hp} {σ : L2.St} {ρ : DEnv} {J : It} {ds : List D} {j : Nat} {t : DT} {p : DE} {P : DK} {Q : VK} (er : EnvR K F1 σ ρ) (s0 : Stp K F O H F1 O1 H1) (k : Post K F O H P Q) (hz : ds.length ≤ 90000)
    (hgo : ∀ i F2 O2 H2, i < ds.length → Stp K F1 O1 H1 F2 O2 H2 → J.go i H2) (hst : ∀ F2 O2 H2, Stp K F1 O1 H1 F2 O2 H2 → J.stop ds.length H2)
    (hy : ∀ i d F2 O2 H2 x H3, ds[i]? = some d → Stp K F1 O1 H1 F2 O2 H2 → J.yld i H2 x H3 → H3 = H2 ∧ Rep K F1 x d)
    (h : dCompM ds j t p ρ O1 P) : ∀ Dl, H1 Dl = none → ∃ W : Nat → Nat → Hp → Prop, (∃ m, W 0 m (upd H1 Dl (.lst []))) ∧ ∀ i m H, W i m H →
      (J.stop i H ∧ Q (.ref Dl) H) ∨ (J.go i H ∧ ∃ Nx : Hp → Prop, (∀ H', Nx H' → ∃ m', m' < m ∧ W (i + 1) m' H') ∧ ∀ x H', J.yld i H x H' → gName j x (L2.wipe σ [j]) H' fun σ2 H2 => L2.wipe σ2 [j] = L2.wipe σ [j] ∧ tT K t σ2 H2 fun b H3 =>
        if b = true then tD K p σ2 H3 fun y H4 => ∃ acc, H4 Dl = some (.lst acc) ∧ acc.length < sizeLine ∧ Nx (upd H4 Dl (.lst (acc ++ [y]))) else Nx H3) := by
  intro Dl hD
  obtain ⟨I, i0, turn, fin⟩ := h
  refine ⟨fun i m H2 => m = ds.length - i ∧ i ≤ ds.length ∧ LcInv K F1 O1 H1 Dl (I i) i H2, ⟨_, rfl, Nat.zero_le _, lc_start s0.hold hD i0⟩, ?_⟩
  rintro i m H2 ⟨rfl, hi, x2⟩
  by_cases hl : i < ds.length
  · have hd : ds[i]? = some ds[i] := List.getElem?_eq_getElem hl
    refine .inr ⟨?_, fun H3 => LcInv K F1 O1 H1 Dl (I (i + 1)) (i + 1) H3, fun H' z => ⟨ds.length - (i + 1), by omega, rfl, hl, z⟩, fun x H3 y => ?_⟩
    · obtain ⟨F2, O2, _, _, s2, _⟩ := x2
      exact hgo i F2 O2 H2 hl s2
    · obtain ⟨e, r⟩ : H3 = H2 ∧ Rep K F1 x ds[i] := by
        obtain ⟨F2, O2, _, _, s2, _⟩ := id x2
        exact hy i _ F2 O2 H2 x H3 hd s2 y
      subst e
      obtain ⟨w1, w2⟩ := wipe1 σ j x
      refine ⟨w1, ?_⟩
      rw [w2]
      exact lc_turn hD (by omega) (fun F2 sm => (er.mono sm).set j (r.mono sm)) (fun acc O hl i => turn _ _ acc O hd hl i) x2
  · have e : i = ds.length := by omega
    subst e
    refine .inl ⟨?_, ?_⟩
    · obtain ⟨F2, O2, _, _, s2, _⟩ := x2
      exact hst F2 O2 H2 s2
    · obtain ⟨F2, O2, acc, s2, o2, l2, i2⟩ := lc_finM hD x2
      exact k _ _ _ F2 H2 (fin acc O2 l2 i2 Dl o2) (s0.tr s2) (.ref Dl)
theorem lcRM_imp {q : DA} {j : Nat} {t : DT} {p : DE} : ∀ σ H Q, tD K (dLcRM q j t p) σ H Q → tLc (iRng1 (tA K q)) (gName j) (tT K t) (tD K p) [j] σ H Q := fun σ H Q x => by
  obtain ⟨ρ, F, O, P, er, ho, hp, k⟩ := x
  refine ⟨ρ, F, O, _, er, ho, hp, fun d O1 v F1 H1 q1 s1 r1 => ?_⟩
  obtain ⟨n, rfl, hz0, hz, ht⟩ := q1
  obtain ⟨v, rfl, r⟩ : ∃ v', v = [v'] ∧ Rep K F1 v' (.int n) := by
    cases r1 with
    | cons a b =>
      cases b
      exact ⟨_, rfl, a⟩
  cases r
  refine ⟨n, rfl, by omega, by omega, comp_impM (er.mono s1.same) s1 k (by rw [rngD_len]; omega) (fun i F2 O2 H2 hi _ => by rw [rngD_len] at hi; exact hi) (fun F2 O2 H2 _ => by rw [rngD_len]; exact Nat.le_refl _) (fun i d F2 O2 H2 x H3 hi s2 y => ?_) ht⟩
  obtain ⟨e, y⟩ := y
  subst e y
  obtain ⟨_, rfl⟩ := rngD_get hi
  exact ⟨rfl, .int _⟩
end
section
variable {X : Cx} {st : Stmt} {qa : DA} {i j : Nat} {t : DT} {p : DE}
theorem qs_lcRM (h : PS X st (tAsg (tLc (iRng1 (tA X.K qa)) (gName j) (tT X.K t) (tD X.K p) [j]) (gName i))) : PS X st (sX X.K W (dAsg (dLcRM qa j t p) (eName i))) := PS.imp h (set_imp lcRM_imp)
end
end Tw

namespace Tw
open PySem L2
/-! ### a list display as a well -/
def dLstW (q : DA) : DE := fun ρ O P => q ρ O fun ds O1 => ∃ a b c n : Int, ds = [.int a, .int b, .int c] ∧ 0 ≤ a ∧ 0 ≤ b ∧ b < 4294967296 ∧ 0 ≤ c ∧ 0 ≤ n ∧ c + n ≤ 1000000000 ∧ ∀ p, O1 p = none → P (.ref p) (updO O1 p (.well n))
section
variable {X : Cx} {es : List Expr} {q : DA} {pos : Pos}
theorem q_lstW (h : PA X es (tA X.K q)) : PE X (.List es pos) (tD X.K (dLstW q)) := PE.imp (pe_lst h) fun σ H Q x => by
  obtain ⟨ρ, F, O, P, er, ho, hp, k⟩ := x
  refine ⟨ρ, F, O, _, er, ho, hp, fun ds O1 vs F1 H1 q1 s1 r1 => ⟨?_, fun p hp => ?_⟩⟩
  · obtain ⟨a, b, c, n, rfl, _⟩ := q1
    rw [r1.length]
    exact sz_of (by show 3 ≤ 100000; decide)
  · obtain ⟨a, b, c, n, rfl, h1, h2, h3, h4, h5, h6, q1⟩ := q1
    have ev : vs = [.int a, .int b, .int c] := Reps.ints (zs := [a, b, c]) r1
    have s2 := s1.hold.newM (m := .well n) (o := .lst vs) hp ⟨a, b, c, by rw [ev], h1, h2, h3, h4, h5, h6⟩
    exact k _ _ _ _ _ (q1 p (s1.hold.free hp).2) (s1.tr s2) (.ref p)
end
/-! ### list + list that will change -/
def fCatLM : D → D → Ow → DK → Prop := fun d1 d2 O P => ∃ xs ys, d1 = .lst xs ∧ d2 = .lst ys ∧ xs.length + ys.length ≤ 100000 ∧ ∀ p, O p = none → P (.ref p) (updO O p (.lst (xs ++ ys)))
theorem r_catLM {K : PySem.W.Frag} : ROp K rCat fCatLM := fun F O H v1 d1 v2 d2 P Q r1 r2 ho h k => by
  obtain ⟨xs, ys, rfl, rfl, hl, hp⟩ := h
  cases r1 with
  | lst h1 q1 =>
    cases r2 with
    | lst h2 q2 =>
      refine ⟨_, _, _, _, rfl, rfl, ho.sub _ _ h1, ho.sub _ _ h2, by rw [q1.length, q2.length]; exact sz_of hl, fun p np => ?_⟩
      exact k _ _ _ _ _ (hp p (ho.free np).2) (ho.newM (m := .lst (xs ++ ys)) np ⟨_, rfl, q1.append q2⟩) (.ref p)
/-! ### a comprehension over the signs of a text -/
def chD (z : Str) : List D := z.cps.toList.map fun c => .str ⟨#[c]⟩
def dLcS (q : DE) (j : Nat) (t : DT) (p : DE) : DE := fun ρ O P => q ρ O fun d O1 => ∃ z, d = .str z ∧ z.cps.size ≤ 90000 ∧ dComp (chD z) j t p ρ O1 P
theorem chD_len (z : Str) : (chD z).length = z.cps.size := by
  unfold chD
  rw [List.length_map, Array.length_toList]
theorem lcS_imp {K : PySem.W.Frag} {q : DE} {j : Nat} {t : DT} {p : DE} : ∀ σ H Q, tD K (dLcS q j t p) σ H Q → tLc (iStr (tD K q)) (gName j) (tT K t) (tD K p) [j] σ H Q := fun σ H Q x => by
  obtain ⟨ρ, F, O, P, er, ho, hp, k⟩ := x
  refine ⟨ρ, F, O, _, er, ho, hp, fun d O1 v F1 H1 q1 s1 r1 => ?_⟩
  obtain ⟨z, rfl, hz, ht⟩ := q1
  cases r1
  refine ⟨z, rfl, comp_imp (er.mono s1.same) s1 k (by rw [chD_len]; exact hz) (fun i F2 O2 H2 hi _ => by rw [chD_len] at hi; exact hi) (fun F2 O2 H2 _ => by rw [chD_len]; exact Nat.le_refl _) (fun i d F2 O2 H2 x H3 hi s2 y => ?_) ht⟩
  obtain ⟨e, c, hc, rfl⟩ := y
  subst e
  have e2 : (chD z)[i]? = some (.str ⟨#[c]⟩) := by
    unfold chD
    rw [List.getElem?_map, Array.getElem?_toList, hc]
    rfl
  rw [e2] at hi
  cases hi
  exact ⟨rfl, .str _⟩
theorem q_lcS {X : Cx} {e : Expr} {q : DE} {j : Nat} {t : DT} {p : DE} (h : PE X e (tLc (iStr (tD X.K q)) (gName j) (tT X.K t) (tD X.K p) [j])) : PE X e (tD X.K (dLcS q j t p)) := PE.imp h lcS_imp
/-! ### the wells of the other laws -/
def g_wellF (n : Int) : List D → Ow → DK → Prop := fun ds O P => ∃ (ns : List Int) (k : Int), ds = [.scr (ns.map D.int), .int k] ∧ 0 ≤ k ∧ k ≤ 1000 ∧ ∀ a, O a = none → P (.ref a) (updO O a (.well n))
end Tw

namespace Tw
open PySem L2
/-! ### displays of dicts with texts as keys, d.get(k, x), d[k] -/
theorem putS_new {ps : List (Str × D)} {z : Str} {d : D} (h : z ∉ ps.map (·.1)) : putS ps z d = ps ++ [(z, d)] := by
  unfold putS
  rw [if_neg]
  intro e
  obtain ⟨p, hp, e⟩ := List.any_eq_true.mp e
  exact h (List.mem_map.mpr ⟨p, hp, of_decide_eq_true e⟩)
theorem foldl_putS : ∀ (ps acc : List (Str × D)), ((acc ++ ps).map (·.1)).Nodup → ps.foldl (fun acc p => putS acc p.1 p.2) acc = acc ++ ps
  | [], acc, _ => by simp
  | p :: ps, acc, h => by
    have hn : p.1 ∉ acc.map (·.1) := fun hm => by
      rw [List.map_append, List.nodup_append] at h
      exact h.2.2 _ hm _ (List.mem_cons_self ..) rfl
    rw [List.foldl_cons, putS_new hn, foldl_putS ps (acc ++ [p])]
    · rw [List.append_assoc]
      rfl
    · rw [List.append_assoc]
      exact h
theorem dctOf_nodup {ps : List (Str × D)} (h : (ps.map (·.1)).Nodup) : dctOf ps = ps := foldl_putS ps [] h
theorem RepKs.merge {K : PySem.W.Frag} {F : Hp} : ∀ {kvs : List (Key × V)} {ps : List (Str × D)} {acc : List (Key × V)} {qs : List (Str × D)}, RepKs K F kvs ps → RepKs K F acc qs → RepKs K F (mergeK acc kvs) (ps.foldl (fun acc p => putS acc p.1 p.2) qs)
  | _, _, _, _, .nil, h => h
  | _, _, _, _, .cons (z := y) a r, h => by
    have x := RepKs.merge r (h.put (z := y) a)
    exact x
theorem RepKs.no {K : PySem.W.Frag} {F : Hp} {z : Str} : ∀ {kvs : List (Key × V)} {ps : List (Str × D)}, RepKs K F kvs ps → ps.lookup z = none → valV kvs (Sum.inr z) = none
  | _, _, .nil, _ => rfl
  | _, _, .cons (z := y) a r, h => by
    by_cases e : y = z
    · subst e
      simp only [List.lookup_cons, beq_self_eq_true] at h
      cases h
    · have hb : (z == y) = false := by
        rw [beq_eq_false_iff_ne]
        exact fun q => e q.symm
      simp only [List.lookup_cons, hb] at h
      rw [valV_neg (fun q => e (Sum.inr.inj q))]
      exact RepKs.no r h
def dPairs : List (Str × DE) → DEnv → Ow → (List (Str × D) → Ow → Prop) → Prop
  | [], _, O, P => P [] O
  | (z, p) :: r, ρ, O, P => p ρ O fun d O1 => dPairs r ρ O1 fun ps O2 => P ((z, d) :: ps) O2
def dDisp (l : List (Str × DE)) : DE := fun ρ O P => dPairs l ρ O fun ps O1 => P (.dct ps) O1
def trsD (K : PySem.W.Frag) (l : List (Str × DE)) : List (TE × TE) := l.map fun x => (tD K (dC (.str x.1)), tD K x.2)
theorem pairs_imp {K : PySem.W.Frag} : ∀ {l : List (Str × DE)} {ρ : DEnv} {F : Hp} {O : Ow} {H : Hp} {σ : L2.St} {P : List (Str × D) → Ow → Prop} {Q : List (V × V) → Hp → Prop}, EnvR K F σ ρ → Hold K F O H → dPairs l ρ O P →
    (∀ ps O' kvs F' H', P ps O' → ps.map (·.1) = l.map (·.1) → Stp K F O H F' O' H' → RepKs K F' kvs ps → Q (kvs.map fun kv => (kV kv.1, kv.2)) H') → tPairs (trsD K l) σ H Q
  | [], ρ, F, O, H, σ, P, Q, er, ho, hp, k => k [] O [] F H hp rfl (Stp.rfl ho) .nil
  | (z, p) :: l, ρ, F, O, H, σ, P, Q, er, ho, hp, k => by
    refine ⟨ρ, F, O, fun d O1 => d = .str z ∧ O1 = O, er, ho, ⟨rfl, rfl⟩, fun d O1 x F1 H1 q1 s1 r1 => ?_⟩
    obtain ⟨rfl, rfl⟩ := q1
    cases r1
    refine ⟨ρ, F1, O1, _, er.mono s1.same, s1.hold, hp, fun d O2 y F2 H2 q2 s2 r2 => ?_⟩
    have s12 := s1.tr s2
    refine pairs_imp (l := l) (er.mono s12.same) s2.hold q2 fun ps O3 kvs F3 H3 q3 e s3 r3 => ?_
    exact k ((z, d) :: ps) O3 ((Sum.inr z, y) :: kvs) F3 H3 q3 (by rw [List.map_cons, List.map_cons, e]) (s12.tr s3) (.cons (r2.mono s3.same) r3)
/-- an object that is made while others are -/
theorem stp_disp {K : PySem.W.Frag} {F F2 H H2 : Hp} {O O2 : Ow} {p : Addr} {o0 : HO} (ho : Hold K F O H) (hp : H p = none) (s : Stp K F O (upd H p o0) F2 O2 H2) : H2 p = some o0 ∧ ∀ o, Stp K F O H (upd F2 p o) O2 (upd H2 p o) := by
  obtain ⟨f1, o1⟩ := ho.free hp
  obtain ⟨h2, f2, o2⟩ := s.fr p o0 f1 o1 upd_same
  have s1 : ∀ o, Same F2 (upd F2 p o) := fun o b u e => by
    rw [upd_ne (ne_of_none e f2)]
    exact e
  refine ⟨h2, fun o => ⟨s.same.trans (s1 o), ⟨fun b u e => ?_, fun a m e => ?_⟩, fun b u q1 q2 q3 => ?_⟩⟩
  · by_cases hb : b = p
    · rw [hb, upd_same] at e
      rw [hb, upd_same]
      exact e
    · rw [upd_ne hb] at e ⊢
      exact s.hold.sub _ _ e
  · have hb : a ≠ p := fun z => by rw [z, o2] at e; cases e
    obtain ⟨g1, u, g2, g3⟩ := s.hold.own a m e
    exact ⟨by rw [upd_ne hb]; exact g1, u, by rw [upd_ne hb]; exact g2, g3.mono (s1 o)⟩
  · have hb : b ≠ p := fun z => by rw [z, hp] at q3; cases q3
    obtain ⟨g1, g2, g3⟩ := s.fr b u q1 q2 (by rw [upd_ne hb]; exact q3)
    exact ⟨by rw [upd_ne hb]; exact g1, by rw [upd_ne hb]; exact g2, g3⟩
def DPs (X : Cx) (pos : Pos) (keys : List (Option Expr)) (values : List Expr) (l : List (Str × DE)) : Prop := PPs X pos keys values (trsD X.K l)
section
variable {X : Cx} {pos : Pos}
theorem qdp_nil : DPs X pos [] [] [] := pps_nil
theorem qdp_cons {k v : Expr} {ks : List (Option Expr)} {vs : List Expr} {z : Str} {p : DE} {l : List (Str × DE)} (hk : PE X k (tD X.K (dC (.str z)))) (hv : PE X v (tD X.K p)) (hr : DPs X pos ks vs l) : DPs X pos (some k :: ks) (v :: vs) ((z, p) :: l) := pps_cons hk hv hr
theorem q_disp {keys : List (Option Expr)} {values : List Expr} {l : List (Str × DE)} (h : DPs X pos keys values l) (hk : (l.map (·.1)).Nodup := by decide +kernel) (hn : l.length ≤ 15 := by decide) (hall : keys.all (·.isSome) = true := by rfl) (hl : keys.length = values.length := by rfl) (h0 : keys ≠ [] := by exact List.cons_ne_nil _ _)
    (h15 : keys.length ≤ 15 := by decide) : PE X (.Dict keys values pos) (tD X.K (dDisp l)) := PE.imp (pe_disp h hall hl h0 h15) fun σ H Q x => by
  obtain ⟨ρ, F, O, P, er, ho, hp, k⟩ := x
  intro p np
  obtain ⟨f1, o1⟩ := ho.free np
  have hold1 : Hold X.K F O (upd H p (.dK [])) := ho.loose f1 o1
  refine pairs_imp er hold1 hp fun ps O2 kvs F2 H2 q e s2 r2 => ?_
  obtain ⟨hp2, st⟩ := stp_disp ho np s2
  have hn2 : (ps.map (·.1)).Nodup := by
    rw [e]
    exact hk
  have hlen : kvs.length ≤ 15 := by
    rw [r2.length]
    have := congrArg List.length e
    rw [List.length_map, List.length_map] at this
    omega
  refine ⟨hp2, kvs, rfl, hlen, k _ _ _ _ _ q (st _) (.dct upd_same ?_)⟩
  have rm : RepKs X.K F2 (mergeK [] kvs) (ps.foldl (fun acc p => putS acc p.1 p.2) []) := RepKs.merge r2 .nil
  rw [foldl_putS ps [] hn2] at rm
  refine rm.mono fun b u eb => ?_
  rw [upd_ne (ne_of_none eb (s2.fr p _ f1 o1 upd_same).2.1)]
  exact eb
def dGet2 (po pk pf : DE) : DE := fun ρ O P => po ρ O fun d O1 => ∃ ps, d = .dct ps ∧ pk ρ O1 fun y O2 => ∃ z, y = .str z ∧ pf ρ O2 fun w O3 => P ((ps.lookup z).getD w) O3
theorem DGet.of {K : PySem.W.Frag} {F H : Hp} {p : Addr} {ps : List (Str × D)} {z : Str} (r : Rep K F (.ref p) (.dct ps)) (s : Same F H) : ∃ o, DGet H p (.str z) o ∧ ((∃ v d, o = some v ∧ ps.lookup z = some d ∧ Rep K F v d) ∨ (o = none ∧ ps.lookup z = none)) := by
  cases r with
  | dct h1 h2 =>
    rename_i kvs
    refine ⟨valV kvs (Sum.inr z), .inl ⟨kvs, Sum.inr z, .inl (s _ _ h1), rfl, rfl⟩, ?_⟩
    cases e : ps.lookup z with
    | none => exact .inr ⟨h2.no e, rfl⟩
    | some d =>
      obtain ⟨v, e1, e2⟩ := h2.val e
      exact .inl ⟨v, d, e1, rfl, e2⟩
theorem q_dget2 {o e f : Expr} {apos cpos : Pos} {po pk pf : DE} (hu : X.A.units + 1 < cLine) (ho : PE X o (tD X.K po)) (he : PE X e (tD X.K pk)) (hf : PE X f (tD X.K pf)) (m : M2 X o "get" apos e f cpos := by exact ⟨rfl, by rfl, rfl, rfl⟩) : PE X (.Call (.Attribute o "get" apos) [e, f] [] cpos) (tD X.K (dGet2 po pk pf)) := PE.imp (pe_dget2 hu ho he hf m) fun σ H Q x => by
  obtain ⟨ρ, F, O, P, er, ho, hp, k⟩ := x
  refine ⟨ρ, F, O, _, er, ho, hp, fun d O1 v F1 H1 q1 s1 r1 => ?_⟩
  obtain ⟨ps, rfl, q1⟩ := q1
  obtain ⟨p, rfl⟩ : ∃ p, v = .ref p := by
    cases r1
    exact ⟨_, rfl⟩
  refine ⟨p, rfl, ?_, ρ, F1, O1, _, er.mono s1.same, s1.hold, q1, fun y O2 u F2 H2 q2 s2 r2 => ?_⟩
  · cases r1 with
    | dct h1 h2 => exact .inl ⟨_, .inl (s1.hold.sub _ _ h1)⟩
  obtain ⟨z, rfl, q2⟩ := q2
  cases r2
  refine ⟨ρ, F2, O2, _, (er.mono s1.same).mono s2.same, s2.hold, q2, fun w O3 u F3 H3 q3 s3 r3 => ?_⟩
  obtain ⟨o, hg, ho⟩ := DGet.of (z := z) ((r1.mono s2.same).mono s3.same) s3.hold.sub
  refine ⟨o, hg, ?_⟩
  rcases ho with ⟨v, d, rfl, e, rv⟩ | ⟨rfl, e⟩
  · rw [e] at q3
    exact k _ _ _ _ _ q3 ((s1.tr s2).tr s3) rv
  · rw [e] at q3
    exact k _ _ _ _ _ q3 ((s1.tr s2).tr s3) r3
def fIxD : D → D → Ow → DK → Prop := fun d1 d2 O P => ∃ ps z v, d1 = .dct ps ∧ d2 = .str z ∧ ps.lookup z = some v ∧ P v O
theorem q_ixD {o i : Expr} {po pi : DE} (hu : X.A.units + 1 < cLine) (ho : PE X o (tD X.K po)) (hi : PE X i (tD X.K pi)) (hs : NoSl i := by exact fun _ _ => rfl) : PE X (.Subscript o i pos) (tD X.K (dOp fIxD po pi)) := PE.imp (pe_dget hu ho hi hs) fun σ H Q x => by
  obtain ⟨ρ, F, O, P, er, ho, hp, k⟩ := x
  refine ⟨ρ, F, O, _, er, ho, hp, fun d O1 v F1 H1 q1 s1 r1 => ?_⟩
  refine ⟨ρ, F1, O1, _, er.mono s1.same, s1.hold, q1, fun y O2 u F2 H2 q2 s2 r2 => ?_⟩
  obtain ⟨ps, z, v1, rfl, rfl, e, q2⟩ := q2
  cases r2
  obtain ⟨p, rfl⟩ : ∃ p, v = .ref p := by
    cases r1
    exact ⟨_, rfl⟩
  obtain ⟨o, hg, ho⟩ := DGet.of (z := z) (r1.mono s2.same) s2.hold.sub
  rcases ho with ⟨v2, d2, rfl, e2, rv⟩ | ⟨rfl, e2⟩
  · rw [e] at e2
    cases e2
    exact ⟨p, v2, rfl, hg, k _ _ _ _ _ q2 (s1.tr s2) rv⟩
  · rw [e] at e2
    cases e2
end
end Tw

namespace Tw
open PySem L2
/-! ### texts of great integers: the limit of digits is the one of the start -/
def digO (o : Obj) : Bool := match o.data with
  | .dict es _ => es.all (fun e => match e.key with | .str _ _ => true | _ => false) && (nsFind es "sys.int_max_str_digits").isNone
  | _ => false
def digK (K : PySem.W.Frag) : Bool := match K.lookup cStatics with
  | some o => digO o
  | none => false
theorem digK_ok {K : PySem.W.Frag} {h : Heap} (X : K.In h) (e : digK K = true) : h.NoDigits := by
  unfold digK at e
  cases hk : K.lookup cStatics with
  | none =>
    rw [hk] at e
    cases e
  | some o =>
    rw [hk] at e
    have hg : h.get? cStatics = some o := X _ _ hk
    refine Heap.noDigits_of_ok ?_
    unfold Heap.noDigitsOk Heap.isNs Heap.nsMap
    rw [hg]
    have e : digO o = true := e
    unfold digO at e
    cases hd : o.data with
    | dict es n =>
      rw [hd] at e
      dsimp only
      rw [hd]
      exact e
    | _ => rw [hd] at e; cases e
theorem call_strB {X : Cx} (hc : X.calm = true) (dg : digK X.K = true) : CallR X (.type "str") (fun xs H Q => ∃ i, xs = [.int i] ∧ i.natAbs < 10 ^ 4300 ∧ Q (.str (toString i)) H) := by
  intro pins s σ H xs us Q I r h
  obtain ⟨i, rfl, hz, q⟩ := h
  obtain ⟨u, rfl, t, rfl⟩ := vals1 r
  exact PyProof.Rows.str_of_int_or (I.ok.hd hc) (digK_ok I.kIn dg) (fun _ => ⟨.str _, H, I.tok _, ⟨_, rfl⟩, q⟩) (fun h => absurd hz (Nat.not_lt.mpr h))
def fStrB : List D → Ow → DK → Prop := fun ds O P => ∃ i, ds = [.int i] ∧ i.natAbs < 10 ^ 4300 ∧ P (.str (Str.ofString (toString i))) O
theorem c_strB {K : PySem.W.Frag} : RCl K (fun xs H Q => ∃ i, xs = [.int i] ∧ i.natAbs < 10 ^ 4300 ∧ Q (.str (toString i)) H) fStrB := fun F O H vs ds P Q r ho h k => by
  obtain ⟨i, rfl, hz, hp⟩ := h
  obtain ⟨v, rfl, q⟩ := r.one
  cases q
  exact ⟨i, rfl, hz, k.now ho (.str _) hp⟩
end Tw

namespace Tw
open PySem L2 PySem.Calls PySem.NumText PyProof.Rows
/-! ### int(text) of up to 4300 signs: the limit of digits is the one of the start -/
theorem maxDigits_any {M : Model} {A : Around} {E : Value → Shared → Prop} {s : Shared} {Q : Nat → Shared → Prop} (hn : s.heap.NoDigits) (h : Q 4300 s) : wpAny M A Builtin.intMaxStrDigits Q E s := by
  obtain ⟨mc, hns, hnone⟩ := hn
  unfold Builtin.intMaxStrDigits
  refine wpAny_bind (wpAny_nsGet hns ?_)
  rw [hnone]
  exact wpAny_pure h
theorem wp_textB {M : Model} {A : Around} {E : Value → Shared → Prop} {s : Shared} {Q : Value → Shared → Prop} {v : Value} {text : List Nat} {n : Int} (hn : s.heap.NoDigits)
    (hs : ¬ (text.takeWhile (· != 0)).length ≤ 640) (hr : (int_private% "readNumeral") 4300 10 (text.takeWhile (· != 0)) = (int_private% "Numeral.value") n)
    (ha : ((text.takeWhile (· != 0)).length == text.length) = true) (h : Q (.int n s.toks) { s with toks := s.toks + 1 }) :
    wpAny M A ((int_private% "intFromText") v text 10) Q E s := by
  obtain ⟨hp, g, d, tk, os⟩ := s
  repeat (any_goals (first
    | assumption
    | (with_reducible refine wpAny_ite_false (decide_eq_false hs) ?_)
    | (with_reducible refine wpAny_ite_true (decide_eq_true ha) ?_)
    | (with_reducible refine maxDigits_any hn ?_)
    | wp_step))
  all_goals (try rw [hr])
  all_goals (try dsimp only)
  repeat (any_goals (first
    | assumption
    | (with_reducible refine wpAny_ite_false (decide_eq_false hs) ?_)
    | (with_reducible refine wpAny_ite_true (decide_eq_true ha) ?_)
    | (with_reducible refine maxDigits_any hn ?_)
    | wp_step))
theorem meets_textB {x : PySem.Str} {u : Tok} {n : Int} (hl : x.length ≤ 4300) (hn : PySem.intText? x = some n) : Meets (Builtin.«int.__new__» ⟨[.type "int", .str x u], []⟩) (fun _ R s => s.heap.NoDigits ∧ R (.ok (.ret (.int n s.toks))) { s with toks := s.toks + 1 }) := fun prog w A R s ⟨hd, h⟩ => by
  refine wpAny_mono (Q := fun fin s' => ∃ v, fin = .done (.ret v) ∧ R (.ok (.ret v)) s') ?_ (fun fin s' h' => by obtain ⟨v, rfl, hv⟩ := h'; exact hv) fun _ _ x => x
  obtain ⟨hp, g, d, tk, os⟩ := s
  have f1 := F.conv_sub_int
  have f2 := F.madeHere_int
  have f3 := PySem.W.KIN.str_int
  have f4 := PySem.W.KIN.str_idx
  have f5 := PySem.W.KIN.str_trunc
  have f6 : typeOf (.str x u) = pure (.type "str") := rfl
  have hz : x.length ≤ sizeLine := Nat.le_trans hl (by decide)
  by_cases hs : (numSeenOf x).length ≤ 640
  · have hr : (int_private% "readNumeral") 0 10 (numSeenOf x) = (int_private% "Numeral.value") n ∧ ((numSeenOf x).length == (numTextOf x).length) = true := by
      rcases read0 x hs with ⟨m, h1, h2, h3⟩ | ⟨h1, _⟩
      · rw [hn] at h1
        injection h1 with h1
        subst h1
        exact ⟨h3, h2⟩
      · rw [hn] at h1
        cases h1
    have hk := PySem.W.KIN.Hid.mk (And.intro hs hr)
    clear hs hr hl hn hz
    repeat (any_goals (first
      | assumption
      | ((with_reducible show wpAny _ _ ((int_private% "intFromText") _ _ _) _ _ _); refine PySem.W.KIN.wp_text hk.out.1 hk.out.2.1 hk.out.2.2 ?_)
      | wp_step))
    all_goals first | exact ⟨_, rfl, h⟩ | skip
  · have hr : (int_private% "readNumeral") 4300 10 (numSeenOf x) = (int_private% "Numeral.value") n ∧ ((numSeenOf x).length == (numTextOf x).length) = true := by
      rcases read4300 x hz with ⟨m, h1, h2, h3⟩ | ⟨h1, _⟩
      · rw [hn] at h1
        injection h1 with h1
        subst h1
        exact ⟨h3, h2⟩
      · rw [hn] at h1
        cases h1
    have hk := PySem.W.KIN.Hid.mk (And.intro hs hr)
    clear hs hr hl hn hz
    repeat (any_goals (first
      | assumption
      | ((with_reducible show wpAny _ _ ((int_private% "intFromText") _ _ _) _ _ _); refine wp_textB hd hk.out.1 hk.out.2.1 hk.out.2.2 ?_)
      | wp_step))
    all_goals first | exact ⟨_, rfl, h⟩ | skip
theorem call_intB {X : Cx} (dg : digK X.K = true) : CallR X (.type "int") (fun xs H Q => ∃ a n, xs = [.str a] ∧ PySem.intText? a = some n ∧ a.length ≤ 4300 ∧ Q (.int n) H) := by
  intro pins s σ H xs us Q I rs h
  obtain ⟨a, n, rfl, hn, hl, h⟩ := h
  cases rs with
  | cons r1 rs =>
    cases rs
    obtain ⟨t, rfl⟩ := r1
    exact call_int_1 (meets_textB hl hn) ⟨digK_ok I.kIn dg, ⟨typeIs_int _ _ _, ⟨.int n, H, I.tok _, ⟨_, rfl⟩, h⟩⟩⟩
def fIntB : List D → Ow → DK → Prop := fun ds O P => ∃ z n, ds = [.str z] ∧ PySem.intText? z = some n ∧ z.length ≤ 4300 ∧ P (.int n) O
theorem c_intB {K : PySem.W.Frag} : RCl K (fun xs H Q => ∃ a n, xs = [.str a] ∧ PySem.intText? a = some n ∧ a.length ≤ 4300 ∧ Q (.int n) H) fIntB := fun F O H vs ds P Q r ho h k => by
  obtain ⟨z, n, rfl, h1, h2, hp⟩ := h
  obtain ⟨v, rfl, q⟩ := r.one
  cases q
  exact ⟨z, n, rfl, h1, h2, k.now ho (.int _) hp⟩
end Tw

namespace Tw
open PySem L2
/-! ### facts of Decimal.__eq__ -/
structure EqF (K : PySem.W.Frag) : Prop where
  eq : PySem.W.findIn K (.ref (He.ga K "Decimal")) "__eq__" = some (some (.ref (He.fAd K ("Decimal", some "__eq__"))))
  ne : PySem.W.findIn K (.ref (He.ga K "Decimal")) "__ne__" = some (some (.builtin "object.__ne__"))
  obj : PySem.W.mroIn K (He.ga K "Decimal") (.type "object") = some true
  fn : PySem.W.isFn K (.ref (He.fAd K ("Decimal", some "__eq__"))) = true
  int : PySem.W.subIn K (.type "int") (.ref (He.ga K "Decimal")) = some false
  isi : PySem.W.kitOne K (.ref (He.ga K "Decimal")) (.type "int") = some false
def eqfB (K : PySem.W.Frag) : Bool := decide (PySem.W.findIn K (.ref (He.ga K "Decimal")) "__eq__" = some (some (.ref (He.fAd K ("Decimal", some "__eq__"))))) && (decide (PySem.W.findIn K (.ref (He.ga K "Decimal")) "__ne__" = some (some (.builtin "object.__ne__"))) &&
  (decide (PySem.W.mroIn K (He.ga K "Decimal") (.type "object") = some true) && (PySem.W.isFn K (.ref (He.fAd K ("Decimal", some "__eq__"))) && (decide (PySem.W.subIn K (.type "int") (.ref (He.ga K "Decimal")) = some false) && decide (PySem.W.kitOne K (.ref (He.ga K "Decimal")) (.type "int") = some false)))))
theorem eqfB_ok {K : PySem.W.Frag} (h : eqfB K = true) : EqF K := by
  unfold eqfB at h
  simp only [Bool.and_eq_true, decide_eq_true_eq] at h
  obtain ⟨h1, h2, h3, h4, h5, h6⟩ := h
  exact ⟨h1, h2, h3, h4, h5, h6⟩
/-! ### isinstance(a Decimal, int) -/
def rIsDecInt (C : Addr) : List V → Hp → VK → Prop := fun xs H Q => ∃ p dx fs, xs = [.ref p, .ty "int"] ∧ H p = some (.ins C dx fs) ∧ Q (.bl false) H
theorem isi_decInt {X : Cx} {C : Addr} (cl : Cls X.K C) (o : OwnC X.K C) (k : PySem.W.kitOne X.K (.ref C) (.type "int") = some false) : CallR X (.builtin "isinstance") (rIsDecInt C) := CallR.imp call_isi fun xs H Q h => by
  obtain ⟨p, dx, fs, rfl, hp, q⟩ := h
  exact ⟨_, _, _, _, _, rfl, .ty _, .base (.ins hp cl o.ha o.hn o.ht o.hm), k, q⟩
def fIsDecInt : List D → Ow → DK → Prop := fun ds O P => ∃ a, ds = [.dec a, .ty "int"] ∧ P (.bl false) O
theorem c_isDecInt {K : PySem.W.Frag} : RCl K (rIsDecInt (He.ga K "Decimal")) fIsDecInt := fun F O H vs ds P Q r ho h k => by
  obtain ⟨a, rfl, hp⟩ := h
  obtain ⟨v, u, rfl, q1, q2⟩ := r.two
  cases q2
  cases q1 with
  | dec h _ => exact ⟨_, _, _, rfl, ho.sub _ _ h, k.now ho (.bl _) hp⟩
end Tw

namespace Tw
open PySem L2
/-! ### methods of a context: flags, what is noted -/
def g_clear_flags : List D → Ow → DK → Prop := fun ds O P => ∃ a, ds = [.ref a] ∧ ∃ r cap trp flg, O a = some (.ctx r cap trp flg) ∧ P .non (updO O a (.ctx r cap trp []))
def g_flags : List D → Ow → DK → Prop := fun ds O P => ∃ a, ds = [.ref a] ∧ ∃ r cap trp flg, O a = some (.ctx r cap trp flg) ∧ P (.lst (flg.map D.str)) O
/-- what the flags are behind an operation with these conditions -/
def flagS (flg ws : List Str) : List Str := sortS ((dctOf ((flg ++ (dctOf (ws.map fun z => (sigOf z, D.str z))).map (·.1)).map fun z => (z, D.bl true))).map (·.1))
/-- no condition that is trapped -/
def Quiet (trp : List Str) (o : Out) : Prop := ∀ z ∈ o.ws, sigOf z ∉ trp
theorem Quiet.nil {o : Out} : Quiet [] o := fun _ _ => List.not_mem_nil
def g_noted : List D → Ow → DK → Prop := fun ds O P => ∃ a o, ds = [.ref a, Out.tup o] ∧ ∃ r cap trp flg, O a = some (.ctx r cap trp flg) ∧ Quiet trp o ∧ flg.length + o.ws.length < 64 ∧ P o.d (updO O a (.ctx r cap trp (flagS flg o.ws)))
def g_settled : List D → Ow → DK → Prop := fun ds O P => ∃ a z xs, ds = [.ref a, .str z, .tup xs] ∧ ∃ r cap trp flg as o, O a = some (.ctx r cap trp flg) ∧ Quiet trp o ∧ flg.length ≤ 50 ∧ Opds xs as ∧ Does r z as o ∧ P o.d (updO O a (.ctx r cap trp (flagS flg o.ws)))
/-- a method that settles an operation of so many operands -/
def g_meth1 (z : Str) : List D → Ow → DK → Prop := fun ds O P => ∃ a x, ds = [.ref a, x] ∧ ∃ r cap trp flg as o, O a = some (.ctx r cap trp flg) ∧ Quiet trp o ∧ flg.length ≤ 50 ∧ Opds [x] as ∧ Does r z as o ∧ P o.d (updO O a (.ctx r cap trp (flagS flg o.ws)))
def g_meth2 (z : Str) : List D → Ow → DK → Prop := fun ds O P => ∃ a x y, ds = [.ref a, x, y] ∧ ∃ r cap trp flg as o, O a = some (.ctx r cap trp flg) ∧ Quiet trp o ∧ flg.length ≤ 50 ∧ Opds [x, y] as ∧ Does r z as o ∧ P o.d (updO O a (.ctx r cap trp (flagS flg o.ws)))
def g_meth3 (z : Str) : List D → Ow → DK → Prop := fun ds O P => ∃ a x y u, ds = [.ref a, x, y, u] ∧ ∃ r cap trp flg as o, O a = some (.ctx r cap trp flg) ∧ Quiet trp o ∧ flg.length ≤ 50 ∧ Opds [x, y, u] as ∧ Does r z as o ∧ P o.d (updO O a (.ctx r cap trp (flagS flg o.ws)))
/-! ### the keys of a dict of texts -/
def addK (acc : List Str) (z : Str) : List Str := if (acc.any fun y => decide (y = z)) = true then acc else acc ++ [z]
def keysOf (zs : List Str) : List Str := zs.foldl addK []
theorem putS_keys (ps : List (Str × D)) (z : Str) (d : D) : (putS ps z d).map (·.1) = addK (ps.map (·.1)) z := by
  unfold putS addK
  rw [List.any_map]
  show (if (ps.any fun p => decide (p.1 = z)) = true then _ else _ : List (Str × D)).map _ = if (ps.any fun p => decide (p.1 = z)) = true then _ else _
  split
  · rw [List.map_map]
    refine List.map_congr_left fun p _ => ?_
    show (if p.1 = z then (p.1, d) else p).1 = p.1
    split <;> rfl
  · rw [List.map_append]
    rfl
theorem dct_keys (ps : List (Str × D)) : (dctOf ps).map (·.1) = keysOf (ps.map (·.1)) := by
  have h : ∀ (ps acc : List (Str × D)), (ps.foldl (fun acc p => putS acc p.1 p.2) acc).map (·.1) = (ps.map (·.1)).foldl addK (acc.map (·.1)) := by
    intro ps
    induction ps with
    | nil => intro acc; rfl
    | cons p ps ih =>
      intro acc
      rw [List.foldl_cons, ih, List.map_cons, List.foldl_cons, putS_keys]
  exact h ps []
theorem addK_nodup {acc : List Str} (h : acc.Nodup) (z : Str) : (addK acc z).Nodup := by
  unfold addK
  split
  · exact h
  · rename_i hn
    refine List.nodup_append.mpr ⟨h, by simp, fun a ha b hb => ?_⟩
    rw [List.mem_singleton] at hb
    subst hb
    intro e
    subst e
    exact hn (List.any_eq_true.mpr ⟨a, ha, decide_eq_true rfl⟩)
theorem keysOf_nodup (zs : List Str) : (keysOf zs).Nodup := by
  have h : ∀ (zs acc : List Str), acc.Nodup → (zs.foldl addK acc).Nodup := by
    intro zs
    induction zs with
    | nil => intro acc h; exact h
    | cons z zs ih => intro acc h; exact ih _ (addK_nodup h z)
  exact h zs [] List.nodup_nil
theorem keysOf_of_nodup {zs : List Str} (h : zs.Nodup) : keysOf zs = zs := by
  have g : ∀ (zs acc : List Str), (acc ++ zs).Nodup → zs.foldl addK acc = acc ++ zs := by
    intro zs
    induction zs with
    | nil => intro acc _; rw [List.append_nil]; rfl
    | cons z zs ih =>
      intro acc h
      have e : addK acc z = acc ++ [z] := by
        unfold addK
        refine if_neg fun q => ?_
        obtain ⟨y, hy, hz⟩ := List.any_eq_true.mp q
        have hz := of_decide_eq_true hz
        subst hz
        exact (List.nodup_append.mp h).2.2 _ hy _ (List.mem_cons_self ..) rfl
      rw [List.foldl_cons, e, ih]
      · rw [List.append_assoc]
        rfl
      · rw [List.append_assoc]
        exact h
  exact g zs [] h
theorem inD_strs {z : Str} : ∀ {zs : List Str}, z ∉ zs → inD (.str z) (zs.map D.str) = false
  | [], _ => rfl
  | y :: zs, h => by
    rw [List.map_cons, inD_cons, eqF_str_str, decide_eq_false (fun e => h (by rw [e]; exact List.mem_cons_self ..)), inD_strs (zs := zs) (fun e => h (List.mem_cons_of_mem _ e))]
    rfl
theorem flt_strs : ∀ (zs : List Str), (zs.map D.str).all fltD = true
  | [] => rfl
  | _ :: zs => by
    rw [List.map_cons, List.all_cons, flt_strs zs]
    rfl
theorem keysOf_mem {z : Str} {zs : List Str} (h : z ∈ keysOf zs) : z ∈ zs := by
  have g : ∀ (zs acc : List Str), z ∈ zs.foldl addK acc → z ∈ acc ∨ z ∈ zs := by
    intro zs
    induction zs with
    | nil => intro acc h; exact .inl h
    | cons y zs ih =>
      intro acc h
      rcases ih _ h with h | h
      · unfold addK at h
        split at h
        · exact .inl h
        · rcases List.mem_append.mp h with h | h
          · exact .inl h
          · rw [List.mem_singleton.mp h]
            exact .inr (List.mem_cons_self ..)
      · exact .inr (List.mem_cons_of_mem _ h)
  rcases g zs [] h with h | h
  · cases h
  · exact h
theorem hasK_mem {ws : List Str} {f : Str → D} {z : Str} (h : hasK (dctOf (ws.map fun y => (sigOf y, f y))) z = true) : ∃ y ∈ ws, sigOf y = z := by
  unfold hasK at h
  obtain ⟨p, hp, e⟩ := List.any_eq_true.mp h
  have e := of_decide_eq_true e
  have hm : z ∈ (dctOf (ws.map fun y => (sigOf y, f y))).map (·.1) := List.mem_map.mpr ⟨p, hp, e⟩
  rw [dct_keys, List.map_map] at hm
  obtain ⟨y, hy, e⟩ := List.mem_map.mp (keysOf_mem hm)
  exact ⟨y, hy, e⟩
/-- flags that were cleared: behind an operation they are what is told -/
theorem flagS_nil (ws : List Str) : flagS [] ws = sigs ws := by
  unfold flagS sigs
  rw [dct_keys, dct_keys, dct_keys, List.map_map, List.map_map, List.map_map, List.nil_append]
  show sortS (keysOf ((keysOf (ws.map sigOf)).map id)) = sortS (keysOf (ws.map sigOf))
  rw [List.map_id, keysOf_of_nodup (keysOf_nodup _)]
theorem FitQ.fits {r : Ru} {s c e : Int} (f : FitQ r s c e) : Fits r c := by
  have p2 := f.p2
  have c1 := f.c1
  refine ⟨f.p1, by omega, f.l, f.h, f.c0, by omega, fun k _ => L2.divp_ok (pow10_pos k) ?_⟩
  have h := f.str.1
  unfold Builtin.Int.intBits
  split
  · omega
  · omega
theorem FitQ.fitD {r : Ru} {s c e : Int} (f : FitQ r s c e) (h0 : 0 ≤ r.clamp) (h1 : r.clamp ≤ 1) : FitD r ⟨s, c, .fin e⟩ := ⟨okF f.sg f.c0, f.fits, h0, h1⟩
theorem mUn_fin {f : Int → Int} {r : Ru} {s c e : Int} (hc : c ≠ 0) : mUn f r ⟨s, c, .fin e⟩ = finP r (f s) c e := by
  have e1 : nanOf r [⟨s, c, .fin e⟩] = none := rfl
  have e2 : isZ ⟨s, c, .fin e⟩ = false := by
    unfold isZ
    rw [decide_eq_false hc, Bool.and_false]
  unfold mUn
  rw [e1]
  show withSign r ⟨s, c, .fin e⟩ (f s) = _
  unfold withSign
  rw [e2, Bool.false_and]
  rfl
theorem mPlus_fin {r : Ru} {s c e : Int} (hc : c ≠ 0) : mPlus r ⟨s, c, .fin e⟩ = finP r s c e := mUn_fin hc
theorem mMinus_fin {r : Ru} {s c e : Int} (hc : c ≠ 0) : mMinus r ⟨s, c, .fin e⟩ = finP r (1 - s) c e := mUn_fin hc
theorem mAbs_fin {r : Ru} {s c e : Int} (hs : s = 0 ∨ s = 1) (hc : c ≠ 0) : mAbs r ⟨s, c, .fin e⟩ = finP r 0 c e := by
  unfold mAbs
  rcases hs with rfl | rfl
  · exact mPlus_fin hc
  · exact mMinus_fin hc
theorem SmallQ.less {r : Ru} {m n : Int} (h : SmallQ r m) (hm : m ≤ n) : SmallQ r n := ⟨h.p1, Int.le_trans h.p2 hm, h.rn, h.l1, h.l2, h.h1, h.h2, h.f1, h.f2⟩
theorem SmallQ.fitQ {r : Ru} {m s c e : Int} (h : SmallQ r m) (hm : m ≤ 460) (hs : s = 0 ∨ s = 1) (h0 : 0 ≤ c) (hc : c < 10 ^ (r.prec + 3).toNat) : FitQ r s c e := by
  have p1 := h.p1
  have p2 := h.p2
  have := nd_le (by omega) h0 hc
  exact ⟨hs, p1, by omega, h.l2, h.h1, h0, by omega⟩
theorem shpT_strs {zs : List Str} (h : ∀ z ∈ zs, PyData.strOk z = true) : shp (D.tup (zs.map D.str)) := by
  refine ⟨by unfold isPy; exact isPys_strs zs, ?_⟩
  unfold dpy
  rw [dpys_strs]
  unfold SeqAt.shaped
  have h1 : PyData.canLay0 (.tuple (zs.map PyData.str)) = true := by unfold PyData.canLay0; exact lay_strs zs h
  have h2 : PyData.depth (.tuple (zs.map PyData.str)) ≤ 64 := by
    have := depth_strs zs
    unfold PyData.depth
    omega
  rw [h1, decide_eq_true h2]
  rfl
/-- the law: whatever the script, True -/
def g_law : List D → Ow → DK → Prop := fun ds O P => ∃ ns : List Int, ds = [.scr (ns.map D.int)] ∧ ns.length ≤ 63 ∧ ∀ O', P (.bl true) O'
theorem top_data {K : PySem.W.Frag} {H : Hp} {a : Addr} {ns : List Int} {Q : VK} {E : XK} (hS : SqL K H a (ns.map V.int)) (hl : ns.length ≤ 63) (hQ : ∀ H', Q (.bl true) H') : spP K g_law [.ref a] H Q E :=
  ⟨[.scr (ns.map D.int)], H, fun _ => none, fun d _ => d = .bl true, .cons (.scr hS (Reps.of_ints ns)) .nil, ⟨fun _ _ h => h, fun _ _ h => by cases h⟩, ⟨ns, rfl, hl, fun _ => rfl⟩, fun d O' v F' H' hd _ r => by subst hd; cases r; exact hQ _⟩
end Tw

namespace Tw
open PySem L2
/-! ### k17: great bounds of exponents -/
def g_law_wide_rules : List D → Ow → DK → Prop := fun ds O P => ∃ W, ds = [.ref W] ∧ ∃ n, O W = some (.well n) ∧ 10 ≤ n ∧ ∀ r n', WideQ r 120 → n - 10 ≤ n' → P (ruT r) (updO O W (.well n'))
def g_law_far_number : List D → Ow → DK → Prop := fun ds O P => ∃ W r, ds = [.ref W, ruT r] ∧ ∃ n, O W = some (.well n) ∧ WideQ r 120 ∧ 1000 ≤ n ∧ ∀ s c e : Int, (s = 0 ∨ s = 1) → 0 < c → c < 10 ^ 123 → ∀ n', n - 1000 ≤ n' → P (givD s c e) (updO O W (.well n'))
theorem WideQ.less {r : Ru} {m n : Int} (h : WideQ r m) (hm : m ≤ n) : WideQ r n := ⟨h.p1, Int.le_trans h.p2 hm, h.rn, h.l1, h.l2, h.h1, h.h2, h.f1, h.f2⟩
theorem WideQ.fitQ {r : Ru} {m s c e : Int} {k : Nat} (h : WideQ r m) (hm : m ≤ 1000) (hs : s = 0 ∨ s = 1) (h0 : 0 ≤ c) (k1 : 1 ≤ k) (k2 : k ≤ 470) (hc : c < 10 ^ k) : FitQ r s c e := by
  have p2 := h.p2
  have := nd_le k1 h0 hc
  exact ⟨hs, h.p1, by omega, h.l2, h.h1, h0, by omega⟩
end Tw

namespace Tw
open PySem L2
/-! ### k25: products -/
def g_law_coefficient : List D → Ow → DK → Prop := fun ds O P => ∃ W m, ds = [.ref W, .int m] ∧ ∃ n, O W = some (.well n) ∧ 1 ≤ m ∧ m ≤ 500 ∧ m + 20 ≤ n ∧ ∀ c : Int, 0 < c → c < 10 ^ (m + 6).toNat → ∀ n', n - (m + 20) ≤ n' → P (.int c) (updO O W (.well n'))
def g_law_pair : List D → Ow → DK → Prop := fun ds O P => ∃ W r, ds = [.ref W, ruT r] ∧ ∃ n, O W = some (.well n) ∧ SmallQ r 20 ∧ 1000 ≤ n ∧ ∀ s1 c1 e1 s2 c2 e2 : Int, (s1 = 0 ∨ s1 = 1) → (s2 = 0 ∨ s2 = 1) → 0 ≤ c1 → 0 < c2 → c1 < 10 ^ 26 → c2 < 10 ^ 26 → ∀ n', n - 1000 ≤ n' → P (.tup [givD s1 c1 e1, givD s2 c2 e2]) (updO O W (.well n'))
theorem pw5_le {a b : Nat} (h : a ≤ b) : (5 : Int) ^ a ≤ 5 ^ b := by
  have e1 : (5 : Int) ^ a = ((5 ^ a : Nat) : Int) := by simp
  have e2 : (5 : Int) ^ b = ((5 ^ b : Nat) : Int) := by simp
  rw [e1, e2]
  exact Int.ofNat_le.mpr (Nat.pow_le_pow_right (by decide) h)
/-- the sign of a product -/
def sg2 (s1 s2 : Int) : Int := if s1 = s2 then 0 else 1
theorem sg2_or (s1 s2 : Int) : sg2 s1 s2 = 0 ∨ sg2 s1 s2 = 1 := by
  unfold sg2
  split <;> simp
theorem sg2_comm (s1 s2 : Int) : sg2 s1 s2 = sg2 s2 s1 := by
  unfold sg2
  by_cases h : s1 = s2
  · rw [if_pos h, if_pos h.symm]
  · rw [if_neg h, if_neg (fun e => h e.symm)]
theorem sg2_ne (s1 s2 : Int) : (if (!decide (s1 = s2)) = true then (1 : Int) else 0) = sg2 s1 s2 := by
  unfold sg2
  by_cases h : s1 = s2
  · rw [if_pos h, decide_eq_true h]
    rfl
  · rw [if_neg h, decide_eq_false h]
    rfl
theorem sg2_int {i s2 : Int} (h : s2 = 0 ∨ s2 = 1) : (if (!decide (decide (i < 0) = decide (s2 = 1))) = true then (1 : Int) else 0) = sg2 (if i < 0 then 1 else 0) s2 := by
  unfold sg2
  by_cases hi : i < 0
  · rw [if_pos hi, decide_eq_true hi]
    rcases h with rfl | rfl <;> rfl
  · rw [if_neg hi, decide_eq_false hi]
    rcases h with rfl | rfl <;> rfl
theorem exAdd_fin {m n : Int} : exAdd (.fin m) (.fin n) = .fin (m + n) := rfl
theorem mMul_fin {r : Ru} {s1 c1 e1 s2 c2 e2 : Int} : mMul r ⟨s1, c1, .fin e1⟩ ⟨s2, c2, .fin e2⟩ = finP r (sg2 s1 s2) (c1 * c2) (e1 + e2) := rfl
theorem FitQ.mul {r : Ru} {s c1 e1 s1 c2 e2 s2 e : Int} (f1 : FitQ r s1 c1 e1) (f2 : FitQ r s2 c2 e2) (f : FitQ r s (c1 * c2) e) (h0 : 0 ≤ r.clamp) (h1 : r.clamp ≤ 1) : FitMul r ⟨s1, c1, .fin e1⟩ ⟨s2, c2, .fin e2⟩ := by
  refine ⟨f1.fitD h0 h1, f2.fitD h0 h1, f.fits, ?_⟩
  have a := f1.str.1
  have b := f2.str.1
  show c1.natAbs.log2 + c2.natAbs.log2 < 1000000
  omega
theorem mul_lt {c1 c2 : Int} {m n : Nat} (h1 : 0 ≤ c1) (h2 : 0 ≤ c2) (l1 : c1 < 10 ^ m) (l2 : c2 < 10 ^ n) : c1 * c2 < 10 ^ (m + n) := by
  have p := pow10_pos n
  rw [Int.pow_add]
  exact Int.lt_of_le_of_lt (Int.mul_le_mul_of_nonneg_left (Int.le_of_lt l2) h1) (Int.mul_lt_mul_of_pos_right l1 p)
/-! ### k26: products of great exponents -/
def g_law_far_pair : List D → Ow → DK → Prop := fun ds O P => ∃ W r, ds = [.ref W, ruT r] ∧ ∃ n, O W = some (.well n) ∧ WideQ r 120 ∧ 1000 ≤ n ∧ ∀ s1 c1 e1 s2 c2 e2 : Int, (s1 = 0 ∨ s1 = 1) → (s2 = 0 ∨ s2 = 1) → 0 ≤ c1 → 0 < c2 → c1 < 10 ^ 123 → c2 < 10 ^ 40 → ∀ n', n - 1000 ≤ n' → P (.tup [givD s1 c1 e1, givD s2 c2 e2]) (updO O W (.well n'))
theorem finS_wrt {r : Ru} {s c e : Int} (hs : s = 0 ∨ s = 1) (hc : 0 ≤ c) : finS r s s (wrt s c, e) = finP r s c e := by
  unfold finS
  have h1 : ((wrt s c).natAbs : Int) = c := by
    rw [wrt_abs]
    omega
  show finP r (if wrt s c = 0 then (if s = s then s else fl1 r) else if wrt s c < 0 then 1 else 0) ((wrt s c).natAbs : Int) e = _
  rw [h1, if_pos rfl]
  have h2 : (if wrt s c = 0 then s else if wrt s c < 0 then 1 else 0) = s := by
    rcases hs with rfl | rfl
    · have e : wrt 0 c = c := if_neg (by decide)
      rw [e]
      split
      · rfl
      · rw [if_neg (by omega)]
    · have e : wrt 1 c = -c := if_pos rfl
      rw [e]
      split
      · rfl
      · rw [if_pos (by omega)]
  rw [h2]
/-- a zero not below the number's exponent changes nothing -/
theorem addF_zero {r : Ru} {s c e e' : Int} (hs : s = 0 ∨ s = 1) (hc : 0 ≤ c) (he : e ≤ e') : addF r s c e s 0 e' = finP r s c e := by
  unfold addF
  have hw : wrt s 0 = 0 := by
    unfold wrt
    split <;> rfl
  by_cases h : e' ≤ e
  · have : e' = e := by omega
    subst this
    rw [if_pos h]
    unfold sumP
    by_cases hc0 : c = 0
    · rw [if_pos hc0, hc0, finS_wrt hs (by decide)]
    · rw [if_neg hc0, if_pos (by rw [decide_eq_true (by omega)]; rfl), hw, Int.sub_self, show wrt s c * 10 ^ (0 : Int).toNat + 0 = wrt s c from by rw [Int.add_zero]; exact Int.mul_one _, finS_wrt hs hc]
  · rw [if_neg h]
    unfold sumP
    rw [if_pos rfl, finS_wrt hs hc]
theorem mFma_zero {r : Ru} {s1 c1 e1 s2 c2 e2 e' : Int} (h1 : 0 ≤ c1) (h2 : 0 ≤ c2) (he : e1 + e2 ≤ e') : mFma r ⟨s1, c1, .fin e1⟩ ⟨s2, c2, .fin e2⟩ ⟨sg2 s1 s2, 0, .fin e'⟩ = finP r (sg2 s1 s2) (c1 * c2) (e1 + e2) := by
  show addF r (sg2 s1 s2) (c1 * c2) (e1 + e2) (sg2 s1 s2) 0 e' = _
  exact addF_zero (sg2_or ..) (Int.mul_nonneg h1 h2) he
end Tw

namespace Tw
open PySem L2
/-! ### sums: what stands for a number far below is finished as the number itself -/
theorem pw_add (a b : Nat) : (10 : Int) ^ (a + b) = 10 ^ a * 10 ^ b := Int.pow_add ..
theorem half10 {t : Nat} (ht : 1 ≤ t) : ∃ h : Int, (10 : Int) ^ t = 2 * h ∧ 0 < h := by
  obtain ⟨t', rfl⟩ : ∃ t', t = t' + 1 := ⟨t - 1, by omega⟩
  refine ⟨5 * 10 ^ t', ?_, Int.mul_pos (by decide) (pow10_pos _)⟩
  rw [Int.pow_succ]
  omega
/-- what lies between two neighbours is cut off as one of them is -/
theorem stick_cut {c m : Int} {k t : Nat} (ht : 1 ≤ t) (m0 : 0 ≤ m) (a : m * 10 ^ k < c) (b : c < (m + 1) * 10 ^ k) :
    cutLeft c ((k + t : Nat) : Int) = m / 10 ^ t ∧ cutInex c ((k + t : Nat) : Int) = true ∧ cutSide c ((k + t : Nat) : Int) = (if 2 * (m % 10 ^ t) < 10 ^ t then -1 else 1) := by
  have hk := pow10_pos k
  have hc : 0 ≤ c := by
    have := Int.mul_nonneg m0 (Int.le_of_lt hk)
    omega
  obtain ⟨e1, e2, e3⟩ := cut_true (c := c) (cut := ((k + t : Nat) : Int)) hc (by omega)
  rw [e1, e2, e3, Int.toNat_natCast, pw_add]
  obtain ⟨h, hU, h0⟩ := half10 ht
  rw [hU]
  have hd : m = 2 * h * (m / (2 * h)) + m % (2 * h) := (Int.mul_ediv_add_emod m (2 * h)).symm
  have r0 := Int.emod_nonneg m (b := 2 * h) (by omega)
  have r1 := Int.emod_lt_of_pos m (b := 2 * h) (by omega)
  generalize m / (2 * h) = q at *
  generalize m % (2 * h) = ρ at *
  generalize (10 : Int) ^ k = K at *
  have eK : m * K = K * (2 * h) * q + ρ * K := by
    rw [hd]
    grind
  have eK1 : (m + 1) * K = m * K + K := by grind
  -- the rest
  have up : (ρ + 1) * K ≤ 2 * h * K := Int.mul_le_mul_of_nonneg_right (by omega) (Int.le_of_lt hk)
  have e4 : (ρ + 1) * K = ρ * K + K := by grind
  have e5 : K * (2 * h) = 2 * h * K := by grind
  have p0 : 0 ≤ ρ * K := Int.mul_nonneg r0 (Int.le_of_lt hk)
  have t0 : 0 ≤ c - K * (2 * h) * q := by omega
  have t1 : c - K * (2 * h) * q < K * (2 * h) := by omega
  have hcd : c = (c - K * (2 * h) * q) + q * (K * (2 * h)) := by grind
  have u0 : 0 < K * (2 * h) := Int.mul_pos hk (by omega)
  have d1 : c / (K * (2 * h)) = q := by
    rw [hcd, Int.add_mul_ediv_right _ _ (by omega), Int.ediv_eq_zero_of_lt t0 t1]
    omega
  have d2 : c % (K * (2 * h)) = c - K * (2 * h) * q := by
    have := Int.emod_add_mul_ediv c (K * (2 * h))
    rw [d1] at this
    omega
  rw [d1, d2]
  refine ⟨rfl, decide_eq_true (by omega), ?_⟩
  have e6 : h * K + h * K = 2 * h * K := by grind
  by_cases hl : 2 * ρ < 2 * h
  · have : (ρ + 1) * K ≤ h * K := Int.mul_le_mul_of_nonneg_right (by omega) (Int.le_of_lt hk)
    rw [if_pos hl, decide_eq_false (show ¬ K * (2 * h) < 2 * (c - K * (2 * h) * q) by omega), decide_eq_true (show 2 * (c - K * (2 * h) * q) < K * (2 * h) by omega)]
    rfl
  · have : h * K ≤ ρ * K := Int.mul_le_mul_of_nonneg_right (by omega) (Int.le_of_lt hk)
    rw [if_neg hl, decide_eq_true (show K * (2 * h) < 2 * (c - K * (2 * h) * q) by omega), decide_eq_false (show ¬ 2 * (c - K * (2 * h) * q) < K * (2 * h) by omega)]
    rfl
theorem nd_between {c m : Int} {k : Nat} (m1 : 1 ≤ m) (a : m * 10 ^ k < c) (b : c < (m + 1) * 10 ^ k) : nd c = nd m + k := by
  have h1 := nd_low (show 0 < m by omega)
  have h2 := lt_nd (show 0 ≤ m by omega)
  have h3 := nd_pos m
  obtain ⟨j, hj⟩ : ∃ j : Nat, nd m = j + 1 := ⟨(nd m - 1).toNat, by omega⟩
  rw [hj, show ((j : Int) + 1 - 1).toNat = j by omega] at h1
  rw [hj, show ((j : Int) + 1).toNat = j + 1 by omega] at h2
  have hk := pow10_pos k
  have l : (10 : Int) ^ (j + k) ≤ m * 10 ^ k := by
    rw [pw_add]
    exact Int.mul_le_mul_of_nonneg_right h1 (Int.le_of_lt hk)
  have u : (m + 1) * 10 ^ k ≤ 10 ^ (j + k + 1) := by
    rw [show j + k + 1 = (j + 1) + k by omega, pw_add]
    exact Int.mul_le_mul_of_nonneg_right (by omega) (Int.le_of_lt hk)
  have := nd_eq (c := c) (k := j + k) (by omega) (by omega)
  rw [this, hj]
  omega
theorem nd_small {c : Int} {k : Nat} (c0 : 0 < c) (h : c < 10 ^ k) : nd c ≤ k := by
  have h1 := nd_low c0
  have h2 := nd_pos c
  have : (nd c - 1).toNat < k := by
    refine Nat.lt_of_not_le fun q => ?_
    have := pw_le q
    omega
  omega
/-- finishing looks at the last exponent, what is left, and whether it is too great or too small -/
theorem fin_eq {r : Ru} {s c1 e1 c2 e2 L : Int} (z1 : 0 < c1) (z2 : 0 < c2) (l1 : max r.etiny (e1 + nd c1 - 1 - r.prec + 1) = L) (l2 : max r.etiny (e2 + nd c2 - 1 - r.prec + 1) = L) (g1 : e1 < L) (g2 : e2 < L)
    (o : e1 + nd c1 - 1 > r.emax ↔ e2 + nd c2 - 1 > r.emax) (m : e1 + nd c1 - 1 < r.emin ↔ e2 + nd c2 - 1 < r.emin)
    (h1 : cutLeft c1 (L - e1) = cutLeft c2 (L - e2)) (h2 : cutInex c1 (L - e1) = cutInex c2 (L - e2)) (h3 : cutSide c1 (L - e1) = cutSide c2 (L - e2)) : finP r s c1 e1 = finP r s c2 e2 := by
  have hr : roundL r.rnd s c1 (L - e1) = roundL r.rnd s c2 (L - e2) := by
    unfold roundL
    rw [h1, h2, h3]
  have hm : decide (e1 + nd c1 - 1 < r.emin) = decide (e2 + nd c2 - 1 < r.emin) := decide_eq_decide.mpr m
  have hf : finCut r s c1 e1 L = finCut r s c2 e2 L := by
    unfold finCut
    rw [hr, h2, hm]
  unfold finP
  rw [if_neg (show ¬ c1 = 0 by omega), if_neg (show ¬ c2 = 0 by omega), l1, l2, if_pos g1, if_pos g2, hf]
  by_cases ho : e1 + nd c1 - 1 > r.emax
  · rw [if_pos ho, if_pos (o.mp ho)]
  · rw [if_neg ho, if_neg (fun q => ho (o.mpr q))]
theorem stick_fin {r : Ru} {s c1 e1 c2 e2 b m : Int} (p1 : 1 ≤ r.prec) (hl : r.emin ≤ 0) (hh : 0 ≤ r.emax) (m0 : 0 ≤ m) (b1 : e1 ≤ b) (b2 : e2 ≤ b) (a1 : m * 10 ^ (b - e1).toNat < c1) (u1 : c1 < (m + 1) * 10 ^ (b - e1).toNat) (a2 : m * 10 ^ (b - e2).toNat < c2) (u2 : c2 < (m + 1) * 10 ^ (b - e2).toNat)
    (hL : (1 ≤ m ∧ b + 1 ≤ max r.etiny (b + nd m - 1 - r.prec + 1)) ∨ (m = 0 ∧ b + 1 ≤ r.etiny)) : finP r s c1 e1 = finP r s c2 e2 := by
  have k1 := pow10_pos (b - e1).toNat
  have k2 := pow10_pos (b - e2).toNat
  have z1 : 0 < c1 := by
    have := Int.mul_nonneg m0 (Int.le_of_lt k1)
    omega
  have z2 : 0 < c2 := by
    have := Int.mul_nonneg m0 (Int.le_of_lt k2)
    omega
  have et : r.etiny = r.emin - r.prec + 1 := rfl
  have cut : ∀ L, b + 1 ≤ L → cutLeft c1 (L - e1) = cutLeft c2 (L - e2) ∧ cutInex c1 (L - e1) = cutInex c2 (L - e2) ∧ cutSide c1 (L - e1) = cutSide c2 (L - e2) := fun L h => by
    have x := stick_cut (t := (L - b).toNat) (by omega) m0 a1 u1
    have y := stick_cut (t := (L - b).toNat) (by omega) m0 a2 u2
    rw [show (((b - e1).toNat + (L - b).toNat : Nat) : Int) = L - e1 by omega] at x
    rw [show (((b - e2).toNat + (L - b).toNat : Nat) : Int) = L - e2 by omega] at y
    exact ⟨x.1.trans y.1.symm, x.2.1.trans y.2.1.symm, x.2.2.trans y.2.2.symm⟩
  rcases hL with ⟨m1, hL⟩ | ⟨rfl, hL⟩
  · have n1 := nd_between m1 a1 u1
    have n2 := nd_between m1 a2 u2
    obtain ⟨q1, q2, q3⟩ := cut _ hL
    exact fin_eq z1 z2 (by rw [n1]; congr 1; omega) (by rw [n2]; congr 1; omega) (by omega) (by omega) (by omega) (by omega) q1 q2 q3
  · rw [show ((0 : Int) + 1) * 10 ^ (b - e1).toNat = 10 ^ (b - e1).toNat from Int.one_mul _] at u1
    rw [show ((0 : Int) + 1) * 10 ^ (b - e2).toNat = 10 ^ (b - e2).toNat from Int.one_mul _] at u2
    have n1 := nd_small z1 u1
    have n2 := nd_small z2 u2
    obtain ⟨q1, q2, q3⟩ := cut _ hL
    exact fin_eq z1 z2 (by omega) (by omega) (by omega) (by omega) (by omega) (by omega) q1 q2 q3
/-- noughts behind that are cut off change nothing -/
theorem scale_fin {r : Ru} {s c e : Int} {k : Nat} (c0 : 0 < c) (g : e < max r.etiny (e + nd c - 1 - r.prec + 1)) : finP r s (c * 10 ^ k) (e - k) = finP r s c e := by
  have hk := pow10_pos k
  have z : 0 < c * 10 ^ k := Int.mul_pos c0 hk
  have hn : nd (c * 10 ^ k) = nd c + k := by
    have h1 := nd_low c0
    have h2 := lt_nd (show 0 ≤ c by omega)
    have h3 := nd_pos c
    obtain ⟨j, hj⟩ : ∃ j : Nat, nd c = j + 1 := ⟨(nd c - 1).toNat, by omega⟩
    rw [hj, show ((j : Int) + 1 - 1).toNat = j by omega] at h1
    rw [hj, show ((j : Int) + 1).toNat = j + 1 by omega] at h2
    have l : (10 : Int) ^ (j + k) ≤ c * 10 ^ k := by
      rw [pw_add]
      exact Int.mul_le_mul_of_nonneg_right h1 (Int.le_of_lt hk)
    have u : c * 10 ^ k < 10 ^ (j + k + 1) := by
      rw [show j + k + 1 = (j + 1) + k by omega, pw_add]
      exact Int.mul_lt_mul_of_pos_right h2 hk
    have := nd_eq (c := c * 10 ^ k) (k := j + k) l u
    rw [this, hj]
    omega
  generalize hL : max r.etiny (e + nd c - 1 - r.prec + 1) = L at g
  have hL2 : max r.etiny (e - k + nd (c * 10 ^ k) - 1 - r.prec + 1) = L := by
    rw [hn, ← hL]
    congr 1
    omega
  obtain ⟨t, ht⟩ : ∃ t : Nat, L - e = t := ⟨(L - e).toNat, by omega⟩
  obtain ⟨x1, x2, x3⟩ := cut_true (c := c) (cut := L - e) (by omega) (by omega)
  obtain ⟨y1, y2, y3⟩ := cut_true (c := c * 10 ^ k) (cut := L - (e - k)) (by omega) (by omega)
  have ek : (10 : Int) ^ (L - (e - k)).toNat = 10 ^ t * 10 ^ k := by
    rw [← pw_add]
    congr 1
    omega
  have et : (10 : Int) ^ (L - e).toNat = 10 ^ t := by
    congr 1
    omega
  rw [ek] at y1 y2 y3
  rw [et] at x1 x2 x3
  have hT := pow10_pos t
  have dv : c * 10 ^ k / (10 ^ t * 10 ^ k) = c / 10 ^ t := Int.mul_ediv_mul_of_pos_left _ _ hk
  have md : c * 10 ^ k % (10 ^ t * 10 ^ k) = c % 10 ^ t * 10 ^ k := by
    have q1 := Int.emod_add_mul_ediv (c * 10 ^ k) (10 ^ t * 10 ^ k)
    have q2 := Int.emod_add_mul_ediv c (10 ^ t)
    rw [dv] at q1
    generalize (10 : Int) ^ k = K at *
    generalize (10 : Int) ^ t = T at *
    have q3 : (c % T + T * (c / T)) * K = c * K := by rw [q2]
    grind
  rw [dv] at y1
  rw [md] at y2 y3
  generalize (10 : Int) ^ k = K at *
  generalize c % 10 ^ t = ρ at *
  generalize (10 : Int) ^ t = T at *
  have c1 : decide (0 < ρ * K) = decide (0 < ρ) := decide_eq_decide.mpr ⟨fun h => Int.pos_of_mul_pos_left h hk, fun h => Int.mul_pos h hk⟩
  have e2 : 2 * (ρ * K) = 2 * ρ * K := by grind
  have c2 : decide (T * K < 2 * (ρ * K)) = decide (T < 2 * ρ) := by
    rw [e2]
    exact decide_eq_decide.mpr ⟨fun h => Int.lt_of_mul_lt_mul_right h (Int.le_of_lt hk), fun h => Int.mul_lt_mul_of_pos_right h hk⟩
  have c3 : decide (2 * (ρ * K) < T * K) = decide (2 * ρ < T) := by
    rw [e2]
    exact decide_eq_decide.mpr ⟨fun h => Int.lt_of_mul_lt_mul_right h (Int.le_of_lt hk), fun h => Int.mul_lt_mul_of_pos_right h hk⟩
  rw [c1] at y2
  rw [c2, c3] at y3
  exact fin_eq z c0 hL2 hL (by omega) (by omega) (by omega) (by omega) (y1.trans x1.symm) (y2.trans x2.symm) (y3.trans x3.symm)
theorem wrt_mul (s c x : Int) : wrt s c * x = wrt s (c * x) := by
  unfold wrt
  split
  · exact Int.neg_mul ..
  · rfl
theorem wrt_add {s t x y : Int} (hs : s = 0 ∨ s = 1) (ht : t = 0 ∨ t = 1) : wrt s x + wrt t y = wrt s (if s = t then x + y else x - y) := by
  unfold wrt
  rcases hs with rfl | rfl <;> rcases ht with rfl | rfl <;> simp <;> omega
theorem finS_pos {r : Ru} {sa sb s c e : Int} (hs : s = 0 ∨ s = 1) (hc : 0 < c) : finS r sa sb (wrt s c, e) = finP r s c e := by
  unfold finS
  have h1 : ((wrt s c).natAbs : Int) = c := by
    rw [wrt_abs]
    omega
  show finP r (if wrt s c = 0 then (if sa = sb then sa else fl1 r) else if wrt s c < 0 then 1 else 0) ((wrt s c).natAbs : Int) e = _
  rw [h1]
  rcases hs with rfl | rfl
  · have e : wrt 0 c = c := if_neg (by decide)
    rw [e, if_neg (by omega), if_neg (by omega)]
  · have e : wrt 1 c = -c := if_pos rfl
    rw [e, if_neg (by omega), if_pos (by omega)]
/-- the sum, as it is worked out, is finished as the exact one -/
theorem sum_fin {r : Ru} {hs hc he ls lc le sa sb : Int} (p1 : 1 ≤ r.prec) (hl : r.emin ≤ 0) (hh : 0 ≤ r.emax) (shs : hs = 0 ∨ hs = 1) (sls : ls = 0 ∨ ls = 1) (c0 : 0 ≤ hc) (l0 : 0 ≤ lc) (h : le ≤ he) :
    finS r sa sb (sumP r hs hc he ls lc le) = finS r sa sb (wrt hs hc * 10 ^ (he - le).toNat + wrt ls lc, le) := by
  unfold sumP
  by_cases z : hc = 0
  · rw [if_pos z, z, show wrt hs 0 = 0 from by unfold wrt; split <;> rfl, Int.zero_mul, Int.zero_add]
  rw [if_neg z]
  have ndh := nd_pos hc
  generalize hb : min he (max r.etiny (he + nd hc - 1 - r.prec + 1) - 3) = bt
  by_cases hcd : (decide (bt ≤ le) || (decide (0 < lc) && decide (bt ≤ le + nd lc - 1))) = true
  · rw [if_pos hcd]
  rw [if_neg hcd]
  simp only [Bool.or_eq_true, Bool.and_eq_true, decide_eq_true_eq] at hcd
  have hbl : le < bt := by omega
  have kj : (10 : Int) ^ (he - le).toNat = 10 ^ (he - bt).toNat * 10 ^ (bt - le).toNat := by
    rw [← pw_add]
    congr 1
    omega
  have hj := pow10_pos (he - bt).toNat
  have hk := pow10_pos (bt - le).toNat
  have M0 : 0 < hc * 10 ^ (he - bt).toNat := Int.mul_pos (by omega) hj
  have ndM : nd (hc * 10 ^ (he - bt).toNat) = nd hc + (he - bt) := by
    have h1 := nd_low (show 0 < hc by omega)
    have h2 := lt_nd c0
    obtain ⟨j, hjj⟩ : ∃ j : Nat, nd hc = j + 1 := ⟨(nd hc - 1).toNat, by omega⟩
    rw [hjj, show ((j : Int) + 1 - 1).toNat = j by omega] at h1
    rw [hjj, show ((j : Int) + 1).toNat = j + 1 by omega] at h2
    have l : (10 : Int) ^ (j + (he - bt).toNat) ≤ hc * 10 ^ (he - bt).toNat := by
      rw [pw_add]
      exact Int.mul_le_mul_of_nonneg_right h1 (Int.le_of_lt hj)
    have u : hc * 10 ^ (he - bt).toNat < 10 ^ (j + (he - bt).toNat + 1) := by
      rw [show j + (he - bt).toNat + 1 = (j + 1) + (he - bt).toNat by omega, pw_add]
      exact Int.mul_lt_mul_of_pos_right h2 hj
    rw [nd_eq l u, hjj]
    omega
  rw [kj, wrt_mul, wrt_mul]
  generalize hM : hc * 10 ^ (he - bt).toNat = M at *
  have hMk : hc * (10 ^ (he - bt).toNat * 10 ^ (bt - le).toNat) = M * 10 ^ (bt - le).toNat := by
    rw [← hM, Int.mul_assoc]
  rw [hMk]
  have hL : max r.etiny (bt + nd M - 1 - r.prec + 1) = max r.etiny (he + nd hc - 1 - r.prec + 1) := by
    rw [ndM]
    congr 1
    omega
  have et : r.etiny = r.emin - r.prec + 1 := rfl
  by_cases zl : lc = 0
  · rw [if_pos zl, zl, show wrt ls 0 = 0 from by unfold wrt; split <;> rfl, Int.add_zero]
    rw [finS_pos shs M0, finS_pos shs (Int.mul_pos M0 hk)]
    have g : bt < max r.etiny (bt + nd M - 1 - r.prec + 1) := by omega
    have q := scale_fin (r := r) (s := hs) (k := (bt - le).toNat) M0 g
    rw [show bt - (((bt - le).toNat : Nat) : Int) = le by omega] at q
    exact q.symm
  rw [if_neg zl]
  have w1 : (if ls = 0 then (1 : Int) else -1) = wrt ls 1 := by
    unfold wrt
    rcases sls with rfl | rfl <;> rfl
  have ndl := nd_pos lc
  have ll : lc < 10 ^ (bt - le).toNat := by
    have q1 := lt_nd l0
    have q2 := pw_le (a := (nd lc).toNat) (b := (bt - le).toNat) (by omega)
    omega
  have w10 : 10 * wrt hs M = wrt hs (10 * M) := by
    rw [Int.mul_comm, wrt_mul, Int.mul_comm]
  rw [w1, w10, wrt_add shs sls, wrt_add shs sls]
  have e10 : (10 : Int) ^ (bt - (bt - 1)).toNat = 10 := by
    rw [show (bt - (bt - 1)).toNat = 1 by omega]
    rfl
  by_cases hss : hs = ls
  · rw [if_pos hss, if_pos hss]
    have z2 : 0 < M * 10 ^ (bt - le).toNat := Int.mul_pos M0 hk
    rw [finS_pos shs (by omega), finS_pos shs (by omega)]
    have em : (M + 1) * 10 ^ (bt - le).toNat = M * 10 ^ (bt - le).toNat + 10 ^ (bt - le).toNat := by grind
    refine stick_fin (b := bt) (m := M) p1 hl hh (by omega) (by omega) (by omega) (by rw [e10]; omega) (by rw [e10]; omega) (by omega) (by rw [em]; omega) (.inl ⟨by omega, by omega⟩)
  · rw [if_neg hss, if_neg hss]
    have em : (M - 1) * 10 ^ (bt - le).toNat = M * 10 ^ (bt - le).toNat - 10 ^ (bt - le).toNat := by grind
    have em2 : (M - 1 + 1) * 10 ^ (bt - le).toNat = M * 10 ^ (bt - le).toNat := by rw [Int.sub_add_cancel]
    have ge : 10 ^ (bt - le).toNat ≤ M * 10 ^ (bt - le).toNat := by
      have := Int.mul_le_mul_of_nonneg_right (show 1 ≤ M by omega) (Int.le_of_lt hk)
      omega
    rw [finS_pos shs (by omega), finS_pos shs (by omega)]
    refine stick_fin (b := bt) (m := M - 1) p1 hl hh (by omega) (by omega) (by omega) (by rw [e10]; omega) (by rw [e10]; omega) (by rw [em]; omega) (by rw [em2]; omega) ?_
    by_cases h1 : M = 1
    · refine .inr ⟨by omega, ?_⟩
      have n1 : nd (1 : Int) = 1 := rfl
      rw [h1, n1] at ndM
      omega
    · refine .inl ⟨by omega, ?_⟩
      have n2 : nd M - 1 ≤ nd (M - 1) := by
        have q1 := nd_low M0
        have q2 := lt_nd (show 0 ≤ M - 1 by omega)
        have q3 := nd_pos (M - 1)
        have q4 : (nd M - 1).toNat ≤ (nd (M - 1)).toNat := by
          refine Nat.le_of_not_lt fun q => ?_
          have := pw_le (a := (nd (M - 1)).toNat + 1) (b := (nd M - 1).toNat) q
          rw [Int.pow_succ] at this
          omega
        omega
      omega
end Tw

namespace Tw
open PySem L2
/-! ### the exact sum, as the laws have it -/
def sumE (s1 c1 e1 s2 c2 e2 : Int) : Int := wrt s1 c1 * 10 ^ (e1 - min e1 e2).toNat + wrt s2 c2 * 10 ^ (e2 - min e1 e2).toNat
def sgS (r : Ru) (s1 s2 n : Int) : Int := if n = 0 then (if s1 = s2 then s1 else fl1 r) else if n < 0 then 1 else 0
theorem sgS_or {r : Ru} {s1 s2 n : Int} (h : s1 = 0 ∨ s1 = 1) : sgS r s1 s2 n = 0 ∨ sgS r s1 s2 n = 1 := by
  unfold sgS fl1
  split
  · split
    · exact h
    · split <;> simp
  · split <;> simp
/-- a sum is what is finished of the exact one -/
theorem addF_fin {r : Ru} {s1 c1 e1 s2 c2 e2 : Int} (p1 : 1 ≤ r.prec) (hl : r.emin ≤ 0) (hh : 0 ≤ r.emax) (h1 : s1 = 0 ∨ s1 = 1) (h2 : s2 = 0 ∨ s2 = 1) (c10 : 0 ≤ c1) (c20 : 0 ≤ c2) :
    addF r s1 c1 e1 s2 c2 e2 = finP r (sgS r s1 s2 (sumE s1 c1 e1 s2 c2 e2)) ((sumE s1 c1 e1 s2 c2 e2).natAbs : Int) (min e1 e2) := by
  have x0 : ∀ x : Int, x * 10 ^ (0 : Int).toNat = x := fun x => Int.mul_one x
  show _ = finS r s1 s2 (sumE s1 c1 e1 s2 c2 e2, min e1 e2)
  unfold addF sumE
  by_cases h : e2 ≤ e1
  · rw [if_pos h, sum_fin p1 hl hh h1 h2 c10 c20 h, show min e1 e2 = e2 by omega, Int.sub_self, x0]
  · rw [if_neg h, sum_fin p1 hl hh h2 h1 c20 c10 (by omega), show min e1 e2 = e1 by omega, Int.sub_self, x0, Int.add_comm]
theorem wrt_law {s c : Int} (h : s = 0 ∨ s = 1) : (1 - 2 * s) * c = wrt s c := by
  unfold wrt
  rcases h with rfl | rfl
  · rw [if_neg (by decide)]
    omega
  · rw [if_pos rfl]
    omega
/-- two numbers whose exact sum is made out -/
structure NearQ (s1 c1 e1 s2 c2 e2 : Int) : Prop where
  hs1 : s1 = 0 ∨ s1 = 1
  hs2 : s2 = 0 ∨ s2 = 1
  hc1 : 0 ≤ c1
  hc2 : 0 ≤ c2
  hl1 : c1 < 10 ^ 60
  hl2 : c2 < 10 ^ 60
  hg1 : e1 - e2 ≤ 300
  hg2 : e2 - e1 ≤ 300
theorem wrt_pow {s c k : Int} (hc : 0 ≤ c) (hl : c < 10 ^ 60) (hk : k ≤ 300) : (wrt s c * 10 ^ k.toNat).natAbs < 10 ^ 360 := by
  rw [Int.natAbs_mul, wrt_abs, abs10, show 360 = 60 + 300 from rfl, Nat.pow_add]
  have q : (10 : Nat) ^ k.toNat ≤ 10 ^ 300 := Nat.pow_le_pow_right (by decide) (by omega)
  exact Nat.lt_of_le_of_lt (Nat.mul_le_mul_left _ q) (Nat.mul_lt_mul_of_pos_right (natAbs_lt hc hl) (Nat.pow_pos (by decide)))
theorem NearQ.lt {s1 c1 e1 s2 c2 e2 : Int} (h : NearQ s1 c1 e1 s2 c2 e2) : (sumE s1 c1 e1 s2 c2 e2).natAbs < 10 ^ 361 := by
  have g1 := h.hg1
  have g2 := h.hg2
  have a := wrt_pow (s := s1) h.hc1 h.hl1 (show e1 - min e1 e2 ≤ 300 by omega)
  have b := wrt_pow (s := s2) h.hc2 h.hl2 (show e2 - min e1 e2 ≤ 300 by omega)
  have e : (10 : Nat) ^ 361 = 10 ^ 360 * 10 := by decide +kernel
  unfold sumE
  omega
theorem NearQ.fitQ {r : Ru} {s1 c1 e1 s2 c2 e2 e : Int} (h : NearQ s1 c1 e1 s2 c2 e2) (p1 : 1 ≤ r.prec) (p2 : r.prec ≤ 2000) (l : r.emin ≤ 0) (hh : 0 ≤ r.emax) : FitQ r (sgS r s1 s2 (sumE s1 c1 e1 s2 c2 e2)) ((sumE s1 c1 e1 s2 c2 e2).natAbs : Int) e := by
  have n : nd ((sumE s1 c1 e1 s2 c2 e2).natAbs : Int) ≤ (361 : Nat) := by
    refine nd_le (by decide) (by omega) ?_
    have e1 : (10 : Int) ^ 361 = ((10 ^ 361 : Nat) : Int) := by simp
    rw [e1]
    exact Int.ofNat_lt.mpr h.lt
  exact ⟨sgS_or h.hs1, p1, p2, l, hh, by omega, by omega⟩
def g_law_sum : List D → Ow → DK → Prop := fun ds O P => ∃ r s1 c1 e1 s2 c2 e2, ds = [ruT r, givD s1 c1 e1, givD s2 c2 e2] ∧ NearQ s1 c1 e1 s2 c2 e2 ∧ P (givD (sgS r s1 s2 (sumE s1 c1 e1 s2 c2 e2)) ((sumE s1 c1 e1 s2 c2 e2).natAbs : Int) (min e1 e2)) O
def g_law_made : List D → Ow → DK → Prop := fun ds O P => ∃ s c e, ds = [givD s c e] ∧ (s = 0 ∨ s = 1) ∧ 0 ≤ c ∧ P (.dec ⟨s, c, .fin e⟩) O
def g_law_turned : List D → Ow → DK → Prop := fun ds O P => ∃ s c e, ds = [givD s c e] ∧ P (givD (1 - s) c e) O
/-! ### k27: fused sums -/
structure ThreeQ (s1 c1 e1 s2 c2 e2 s3 c3 e3 : Int) : Prop where
  hs1 : s1 = 0 ∨ s1 = 1
  hs2 : s2 = 0 ∨ s2 = 1
  hs3 : s3 = 0 ∨ s3 = 1
  hc1 : 0 ≤ c1
  hc2 : 0 ≤ c2
  hc3 : 0 ≤ c3
  hl1 : c1 < 10 ^ 20
  hl2 : c2 < 10 ^ 20
  hl3 : c3 < 10 ^ 50
  he1 : -60 ≤ e1 ∧ e1 ≤ 60
  he2 : -60 ≤ e2 ∧ e2 ≤ 60
  he3 : -100 ≤ e3 ∧ e3 ≤ 100
def g_law_three : List D → Ow → DK → Prop := fun ds O P => ∃ W r, ds = [.ref W, ruT r] ∧ ∃ n, O W = some (.well n) ∧ SmallQ r 9 ∧ 4000 ≤ n ∧ ∀ s1 c1 e1 s2 c2 e2 s3 c3 e3 : Int, ThreeQ s1 c1 e1 s2 c2 e2 s3 c3 e3 → ∀ n', n - 4000 ≤ n' → P (.tup [givD s1 c1 e1, givD s2 c2 e2, givD s3 c3 e3]) (updO O W (.well n'))
theorem mFma_fin {r : Ru} {s1 c1 e1 s2 c2 e2 s3 c3 e3 : Int} : mFma r ⟨s1, c1, .fin e1⟩ ⟨s2, c2, .fin e2⟩ ⟨s3, c3, .fin e3⟩ = addF r (sg2 s1 s2) (c1 * c2) (e1 + e2) s3 c3 e3 := rfl
theorem sg2_turn {s1 s2 : Int} (h1 : s1 = 0 ∨ s1 = 1) (h2 : s2 = 0 ∨ s2 = 1) : sg2 (1 - s1) s2 = 1 - sg2 s1 s2 := by
  rcases h1 with rfl | rfl <;> rcases h2 with rfl | rfl <;> rfl
theorem ThreeQ.near {s1 c1 e1 s2 c2 e2 s3 c3 e3 sg : Int} (q : ThreeQ s1 c1 e1 s2 c2 e2 s3 c3 e3) (h : sg = 0 ∨ sg = 1) : NearQ sg (c1 * c2) (e1 + e2) s3 c3 e3 := by
  have a := q.he1
  have b := q.he2
  have c := q.he3
  have m := mul_lt q.hc1 q.hc2 q.hl1 q.hl2
  exact ⟨h, q.hs3, Int.mul_nonneg q.hc1 q.hc2, q.hc3, Int.lt_of_lt_of_le m (pw_le (by decide)), Int.lt_of_lt_of_le q.hl3 (pw_le (by decide)), by omega, by omega⟩
/-- fma of three numbers tells the exact sum, finished -/
theorem ThreeQ.fma {r : Ru} {s1 c1 e1 s2 c2 e2 s3 c3 e3 s : Int} (q : ThreeQ s1 c1 e1 s2 c2 e2 s3 c3 e3) (g : SmallQ r 9) (hs : s = 0 ∨ s = 1) :
    FitFma r ⟨s, c1, .fin e1⟩ ⟨s2, c2, .fin e2⟩ ⟨s3, c3, .fin e3⟩ ∧ mFma r ⟨s, c1, .fin e1⟩ ⟨s2, c2, .fin e2⟩ ⟨s3, c3, .fin e3⟩ = finP r (sgS r (sg2 s s2) s3 (sumE (sg2 s s2) (c1 * c2) (e1 + e2) s3 c3 e3)) ((sumE (sg2 s s2) (c1 * c2) (e1 + e2) s3 c3 e3).natAbs : Int) (min (e1 + e2) e3) := by
  have p1 := g.p1
  have p2 := g.p2
  have m0 := Int.mul_nonneg q.hc1 q.hc2
  have n1 := nd_le (by decide) q.hc1 q.hl1
  have n2 := nd_le (by decide) q.hc2 q.hl2
  have n3 := nd_le (by decide) q.hc3 q.hl3
  have nm := nd_le (by decide) m0 (mul_lt q.hc1 q.hc2 q.hl1 q.hl2)
  have fq : ∀ s c e, (s = 0 ∨ s = 1) → 0 ≤ c → nd c ≤ 470 → FitQ r s c e := fun s c e hs h0 h1 => ⟨hs, p1, by omega, g.l2, g.h1, h0, h1⟩
  have fm : FitMul r ⟨s, c1, .fin e1⟩ ⟨s2, c2, .fin e2⟩ := (fq s c1 e1 hs q.hc1 (by omega)).mul (fq s2 c2 e2 q.hs2 q.hc2 (by omega)) (fq 0 _ 0 (.inl rfl) m0 (by omega)) g.f1 g.f2
  refine ⟨⟨fm, (fq s3 c3 e3 q.hs3 q.hc3 (by omega)).fitD g.f1 g.f2, by omega, by show nd c1 ≤ 200; omega, by show nd c2 ≤ 200; omega, by show nd c3 ≤ 200; omega, by show nd (c1 * c2) ≤ 200; omega⟩, ?_⟩
  rw [mFma_fin]
  exact addF_fin p1 g.l2 g.h1 (sg2_or ..) q.hs3 m0 q.hc3
/-! ### k22: sums -/
structure PairQ (s1 c1 e1 s2 c2 e2 : Int) : Prop where
  hs1 : s1 = 0 ∨ s1 = 1
  hs2 : s2 = 0 ∨ s2 = 1
  hc1 : 0 ≤ c1
  hc2 : 0 ≤ c2
  hl1 : c1 < 10 ^ 20
  hl2 : c2 < 10 ^ 20
  he1 : -60 ≤ e1 ∧ e1 ≤ 60
  he2 : -60 ≤ e2 ∧ e2 ≤ 60
def g_law_pair2 : List D → Ow → DK → Prop := fun ds O P => ∃ W r, ds = [.ref W, ruT r] ∧ ∃ n, O W = some (.well n) ∧ SmallQ r 9 ∧ 3000 ≤ n ∧ ∀ s1 c1 e1 s2 c2 e2 : Int, PairQ s1 c1 e1 s2 c2 e2 → ∀ n', n - 3000 ≤ n' → P (.tup [givD s1 c1 e1, givD s2 c2 e2]) (updO O W (.well n'))
def g_law_whole_right : List D → Ow → DK → Prop := fun ds O P => ∃ W r s1 c1 e1 s2 c2 e2, ds = [.ref W, ruT r, givD s1 c1 e1, givD s2 c2 e2] ∧ ∃ n, O W = some (.well n) ∧ SmallQ r 9 ∧ PairQ s1 c1 e1 s2 c2 e2 ∧ 10 ≤ n ∧ ∀ O' n', O' W = some (.well n') → n - 10 ≤ n' → (∀ a m, a ≠ W → O a = some m → O' a = some m) → P (.bl true) O'
theorem PairQ.near {s1 c1 e1 s2 c2 e2 : Int} (q : PairQ s1 c1 e1 s2 c2 e2) : NearQ s1 c1 e1 s2 c2 e2 := by
  have a := q.he1
  have b := q.he2
  exact ⟨q.hs1, q.hs2, q.hc1, q.hc2, Int.lt_of_lt_of_le q.hl1 (pw_le (by decide)), Int.lt_of_lt_of_le q.hl2 (pw_le (by decide)), by omega, by omega⟩
theorem PairQ.turn {s1 c1 e1 s2 c2 e2 : Int} (q : PairQ s1 c1 e1 s2 c2 e2) : PairQ s1 c1 e1 (1 - s2) c2 e2 := ⟨q.hs1, by have := q.hs2; omega, q.hc1, q.hc2, q.hl1, q.hl2, q.he1, q.he2⟩
theorem PairQ.fit {r : Ru} {s1 c1 e1 s2 c2 e2 : Int} (q : PairQ s1 c1 e1 s2 c2 e2) (g : SmallQ r 9) : FitAdd r ⟨s1, c1, .fin e1⟩ ⟨s2, c2, .fin e2⟩ := by
  have p1 := g.p1
  have p2 := g.p2
  have n1 := nd_le (by decide) q.hc1 q.hl1
  have n2 := nd_le (by decide) q.hc2 q.hl2
  have fq : ∀ s c e, (s = 0 ∨ s = 1) → 0 ≤ c → nd c ≤ 470 → FitQ r s c e := fun s c e hs h0 h1 => ⟨hs, p1, by omega, g.l2, g.h1, h0, h1⟩
  exact ⟨(fq s1 c1 e1 q.hs1 q.hc1 (by omega)).fitD g.f1 g.f2, (fq s2 c2 e2 q.hs2 q.hc2 (by omega)).fitD g.f1 g.f2, by omega, by show nd c1 ≤ 200; omega, by show nd c2 ≤ 200; omega⟩
/-- what is told of a sum: the exact one, finished -/
def sumO (r : Ru) (s1 c1 e1 s2 c2 e2 : Int) : Out := finP r (sgS r s1 s2 (sumE s1 c1 e1 s2 c2 e2)) ((sumE s1 c1 e1 s2 c2 e2).natAbs : Int) (min e1 e2)
theorem PairQ.add {r : Ru} {s1 c1 e1 s2 c2 e2 : Int} (q : PairQ s1 c1 e1 s2 c2 e2) (g : SmallQ r 9) : mAdd r ⟨s1, c1, .fin e1⟩ ⟨s2, c2, .fin e2⟩ = sumO r s1 c1 e1 s2 c2 e2 := addF_fin g.p1 g.l2 g.h1 q.hs1 q.hs2 q.hc1 q.hc2
theorem PairQ.sub {r : Ru} {s1 c1 e1 s2 c2 e2 : Int} (q : PairQ s1 c1 e1 s2 c2 e2) (g : SmallQ r 9) : mSub r ⟨s1, c1, .fin e1⟩ ⟨s2, c2, .fin e2⟩ = sumO r s1 c1 e1 (1 - s2) c2 e2 := addF_fin g.p1 g.l2 g.h1 q.hs1 q.turn.hs2 q.hc1 q.hc2
theorem PairQ.fitQ {r : Ru} {s1 c1 e1 s2 c2 e2 e : Int} (q : PairQ s1 c1 e1 s2 c2 e2) (g : SmallQ r 9) : FitQ r (sgS r s1 s2 (sumE s1 c1 e1 s2 c2 e2)) ((sumE s1 c1 e1 s2 c2 e2).natAbs : Int) e := q.near.fitQ g.p1 (by have := g.p2; omega) g.l2 g.h1
end Tw

namespace Tw
open PySem L2
/-! ### Decimals of all sorts, as the laws hold them: a sign, a coefficient, an exponent or a letter -/
def givX (a : Dc) : D := .tup [.int a.s, .int a.c, a.e.d]
structure AnyQ (a : Dc) : Prop where
  ok : a.Ok
  lt : a.c < 10 ^ 20
  ex : ∀ n, a.e = .fin n → -60 ≤ n ∧ n ≤ 60
theorem kept_mod {r : Ru} {c : Int} (h : 0 ≤ c) (hp : r.clamp ≤ r.prec) : kept r c = c % 10 ^ (r.prec - r.clamp).toNat := by
  unfold kept
  split
  · rename_i h1
    have h2 := nd_pos c
    have h3 := lt_nd h
    have h4 : (10 : Int) ^ (nd c).toNat ≤ 10 ^ (r.prec - r.clamp).toNat := pw_le (by omega)
    exact (Int.emod_eq_of_lt h (by omega)).symm
  · rfl
/-- the letters -/
def letD (d : D) : Bool := match d with
  | .tup [_, _, .str z] => decide (z = "F")
  | _ => false
/-- what NaNs lead to, as the laws tell it -/
def optQ : Option Out → D
  | none => .non
  | some o => .tup [givX (decO o.d), .tup (o.ws.map D.str)]
theorem optQ_none : optQ none = .non := rfl
theorem optQ_some {o : Out} : optQ (some o) = .tup [givX (decO o.d), .tup (o.ws.map D.str)] := rfl
def optX : Option Dc → D
  | none => .non
  | some p => givX p
theorem optX_none : optX none = .non := rfl
theorem optX_some {p : Dc} : optX (some p) = givX p := rfl
def g_law_madeX : List D → Ow → DK → Prop := fun ds O P => ∃ a, ds = [givX a] ∧ a.Ok ∧ P (.dec a) O
def g_law_special : List D → Ow → DK → Prop := fun ds O P => ∃ W m, ds = [.ref W, .int m] ∧ ∃ n, O W = some (.well n) ∧ 1 ≤ m ∧ m ≤ 9 ∧ 10 ≤ n ∧ ∀ a : Dc, AnyQ a → a.e.isFin = false → ∀ n', n - 10 ≤ n' → P (givX a) (updO O W (.well n'))
def g_law_any : List D → Ow → DK → Prop := fun ds O P => ∃ W r, ds = [.ref W, ruT r] ∧ ∃ n, O W = some (.well n) ∧ SmallQ r 9 ∧ 1100 ≤ n ∧ ∀ a : Dc, AnyQ a → ∀ n', n - 1100 ≤ n' → P (givX a) (updO O W (.well n'))
def g_law_quiet : List D → Ow → DK → Prop := fun ds O P => ∃ r a b, ds = [ruT r, .lst [givX a, givX b]] ∧ 0 ≤ a.c ∧ 0 ≤ b.c ∧ 0 ≤ r.clamp ∧ r.clamp ≤ r.prec ∧ r.prec ≤ 1000 ∧ P (optQ (nanOf r [a, b])) O
def g_law_is_due : List D → Ow → DK → Prop := fun ds O P => ∃ a zs, ds = [.tup [.dec a, .tup zs], .tup [givX a, .tup zs]] ∧ (zs = [] ∨ zs = [.str "InvalidOperation"]) ∧ P (.bl true) O
def g_law_product : List D → Ow → DK → Prop := fun ds O P => ∃ a b, ds = [givX a, givX b] ∧ a.e.isNan = false ∧ b.e.isNan = false ∧ CMulW a.c b.c ∧ P (optX (prodX a b)) O
theorem shp_due (a : Dc) (zs : List D) (h : zs = [] ∨ zs = [.str "InvalidOperation"]) : shp (.tup [givX a, .tup zs]) := by
  have h1 : PyData.strOk ("F" : Str) = true := by decide +kernel
  have h2 : PyData.strOk ("n" : Str) = true := by decide +kernel
  have h3 : PyData.strOk ("N" : Str) = true := by decide +kernel
  have h4 : PyData.strOk ("InvalidOperation" : Str) = true := by decide +kernel
  obtain ⟨s, c, e⟩ := a
  rcases h with rfl | rfl <;> cases e <;> refine ⟨rfl, ?_⟩
  · show SeqAt.shaped (.tuple [.tuple [.int s, .int c, .int _], .tuple []]) = true
    simp [SeqAt.shaped, PyData.canLay0, PyData.canLayAll0, PyData.depth, PyData.depthAll]
  · show SeqAt.shaped (.tuple [.tuple [.int s, .int c, .str "F"], .tuple []]) = true
    simp [SeqAt.shaped, PyData.canLay0, PyData.canLayAll0, PyData.depth, PyData.depthAll, h1]
  · show SeqAt.shaped (.tuple [.tuple [.int s, .int c, .str "n"], .tuple []]) = true
    simp [SeqAt.shaped, PyData.canLay0, PyData.canLayAll0, PyData.depth, PyData.depthAll, h2]
  · show SeqAt.shaped (.tuple [.tuple [.int s, .int c, .str "N"], .tuple []]) = true
    simp [SeqAt.shaped, PyData.canLay0, PyData.canLayAll0, PyData.depth, PyData.depthAll, h3]
  · show SeqAt.shaped (.tuple [.tuple [.int s, .int c, .int _], .tuple [.str "InvalidOperation"]]) = true
    simp [SeqAt.shaped, PyData.canLay0, PyData.canLayAll0, PyData.depth, PyData.depthAll, h4]
  · show SeqAt.shaped (.tuple [.tuple [.int s, .int c, .str "F"], .tuple [.str "InvalidOperation"]]) = true
    simp [SeqAt.shaped, PyData.canLay0, PyData.canLayAll0, PyData.depth, PyData.depthAll, h1, h4]
  · show SeqAt.shaped (.tuple [.tuple [.int s, .int c, .str "n"], .tuple [.str "InvalidOperation"]]) = true
    simp [SeqAt.shaped, PyData.canLay0, PyData.canLayAll0, PyData.depth, PyData.depthAll, h2, h4]
  · show SeqAt.shaped (.tuple [.tuple [.int s, .int c, .str "N"], .tuple [.str "InvalidOperation"]]) = true
    simp [SeqAt.shaped, PyData.canLay0, PyData.canLayAll0, PyData.depth, PyData.depthAll, h3, h4]
theorem shp_nilL : shp (.lst []) := ⟨rfl, by decide +kernel⟩
theorem shp_nilT : shp (.tup []) := ⟨rfl, by decide +kernel⟩
theorem shp_inv : shp (.tup [.str "InvalidOperation"]) := ⟨rfl, by decide +kernel⟩
theorem deq_inv : deq (.tup [.str "InvalidOperation"]) (.tup []) = false := by decide +kernel
theorem deq_nilT : deq (.tup []) (.tup []) = true := by decide +kernel
theorem deq_nilL : deq (.lst []) (.lst []) = true := by decide +kernel
/-- lists of such parts -/
theorem shp_lstX1 (a : Dc) : shp (.lst [givX a]) := by
  have h1 : PyData.strOk ("F" : Str) = true := by decide +kernel
  have h2 : PyData.strOk ("n" : Str) = true := by decide +kernel
  have h3 : PyData.strOk ("N" : Str) = true := by decide +kernel
  obtain ⟨s, c, e⟩ := a
  cases e <;> refine ⟨rfl, ?_⟩
  · show SeqAt.shaped (.list [.tuple [.int s, .int c, .int _]]) = true
    simp [SeqAt.shaped, PyData.canLay0, PyData.canLayAll0, PyData.depth, PyData.depthAll]
  · show SeqAt.shaped (.list [.tuple [.int s, .int c, .str "F"]]) = true
    simp [SeqAt.shaped, PyData.canLay0, PyData.canLayAll0, PyData.depth, PyData.depthAll, h1]
  · show SeqAt.shaped (.list [.tuple [.int s, .int c, .str "n"]]) = true
    simp [SeqAt.shaped, PyData.canLay0, PyData.canLayAll0, PyData.depth, PyData.depthAll, h2]
  · show SeqAt.shaped (.list [.tuple [.int s, .int c, .str "N"]]) = true
    simp [SeqAt.shaped, PyData.canLay0, PyData.canLayAll0, PyData.depth, PyData.depthAll, h3]
theorem shp_lstX2 (a b : Dc) : shp (.lst [givX a, givX b]) := by
  have h1 : PyData.strOk ("F" : Str) = true := by decide +kernel
  have h2 : PyData.strOk ("n" : Str) = true := by decide +kernel
  have h3 : PyData.strOk ("N" : Str) = true := by decide +kernel
  have hx : ∀ e : Ex4, PyData.canLay0 (dpy e.d) = true ∧ PyData.depth (dpy e.d) ≤ 1 ∧ isPy e.d = true := by
    intro e
    cases e <;> simp [Ex4.d, dpy, isPy, PyData.canLay0, PyData.depth, h1, h2, h3]
  obtain ⟨a1, a2, a3⟩ := hx a.e
  obtain ⟨b1, b2, b3⟩ := hx b.e
  refine ⟨?_, ?_⟩
  · simp [givX, isPy, isPys, a3, b3]
  · have e1 : dpy (.lst [givX a, givX b]) = .list [.tuple [.int a.s, .int a.c, dpy a.e.d], .tuple [.int b.s, .int b.c, dpy b.e.d]] := by simp [givX, dpy, dpys]
    rw [e1]
    simp [SeqAt.shaped, PyData.canLay0, PyData.canLayAll0, PyData.depth, PyData.depthAll, a1, b1]
    omega
theorem sigs_inv : sigs (["InvalidOperation"] : List Str) = (["InvalidOperation"] : List Str) := by decide +kernel
theorem sigs_nil : sigs ([] : List Str) = [] := by decide +kernel
theorem told_inv (a : Dc) : Out.told ⟨.dec a, ["InvalidOperation"]⟩ = .tup [.dec a, .tup [.str "InvalidOperation"]] := by
  unfold Out.told
  rw [sigs_inv]
  rfl
theorem told_nil (a : Dc) : Out.told ⟨.dec a, []⟩ = .tup [.dec a, .tup []] := by
  unfold Out.told
  rw [sigs_nil]
  rfl
/-- two operands whose sum is told -/
structure NearX (p c : Dc) : Prop where
  op : p.Ok
  oc : c.Ok
  lp : p.c < 10 ^ 40
  lc : c.c < 10 ^ 40
  ep : ∀ n, p.e = .fin n → -150 ≤ n ∧ n ≤ 150
  ec : ∀ n, c.e = .fin n → -150 ≤ n ∧ n ≤ 150
theorem nan_told {r : Ru} {as : List Dc} {o : Out} (h : nanOf r as = some o) : (o.ws = [] ∨ o.ws = (["InvalidOperation"] : List Str)) ∧ o.d = .dec (decO o.d) ∧ o.told = .tup [.dec (decO o.d), .tup (o.ws.map D.str)] := by
  obtain ⟨y, _, e⟩ := nanOf_dec h
  have w := nanOf_ws h
  have ed : o.d = .dec (decO o.d) := by rw [e]; rfl
  refine ⟨w, ed, ?_⟩
  obtain ⟨d, ws⟩ := o
  simp only at ed w ⊢
  rw [ed]
  rcases w with rfl | rfl
  · exact told_nil _
  · exact told_inv _
/-- the Decimal that NaNs lead to -/
theorem nan_any {r : Ru} {a b : Dc} {o : Out} (qa : AnyQ a) (qb : AnyQ b) (h : nanOf r [a, b] = some o) {c : Dc} (qc : AnyQ c) : NearX (decO o.d) c := by
  obtain ⟨y, hy, e⟩ := nanOf_dec h
  have qy : AnyQ y := by
    rcases List.mem_cons.mp hy with rfl | hy
    · exact qa
    · rw [List.mem_singleton.mp hy]
      exact qb
  rw [e]
  have k := kept_le (r := r) qy.ok.co
  have kl : kept r y.c ≤ y.c := by
    unfold kept
    split
    · exact Int.le_refl _
    · exact emod_le_self qy.ok.co (pow10_pos _)
  have b40 : (10 : Int) ^ 20 ≤ 10 ^ 40 := pw_le (by decide)
  have l1 := qy.lt
  have l2 := qc.lt
  exact ⟨⟨qy.ok.sg, k.1, fun h => nomatch h⟩, qc.ok, by show kept r y.c < _; omega, by omega, (fun n h => nomatch h), fun n h => by have := qc.ex n h; omega⟩
theorem prod_any {a b c p : Dc} (qa : AnyQ a) (qb : AnyQ b) (qc : AnyQ c) (na : a.e.isNan = false) (nb : b.e.isNan = false) (h : prodX a b = some p) : NearX p c := by
  have b40 : (10 : Int) ^ 20 ≤ 10 ^ 40 := pw_le (by decide)
  have l2 := qc.lt
  have z40 : (0 : Int) < 10 ^ 40 := pow10_pos _
  have ec : ∀ n, c.e = .fin n → -150 ≤ n ∧ n ≤ 150 := fun n h => by have := qc.ex n h; omega
  unfold prodX at h
  split at h
  · split at h
    · cases h
    · cases h
      exact ⟨⟨sgB_or a b, Int.le_refl _, fun _ => rfl⟩, qc.ok, z40, by omega, (fun n h => nomatch h), ec⟩
  · cases h
    rename_i hi
    have m0 := Int.mul_nonneg qa.ok.co qb.ok.co
    have m1 := mul_lt qa.ok.co qb.ok.co qa.lt qb.lt
    have xa := qa.ex
    have xb := qb.ex
    cases ea : a.e <;> cases eb : b.e <;> simp_all [Ex4.isInf, Ex4.isNan]
    rename_i m n
    refine ⟨⟨sgB_or a b, m0, fun h => nomatch h⟩, qc.ok, m1, by omega, fun k h => ?_, ec⟩
    have e : m + n = k := by
      simp only [exAdd, Ex4.fin.injEq] at h
      exact h
    omega
theorem AnyQ.fit {r : Ru} {a b c : Dc} (qa : AnyQ a) (qb : AnyQ b) (qc : AnyQ c) (g : SmallQ r 9) : FitFma r a b c := by
  have p1 := g.p1
  have p2 := g.p2
  have n1 := nd_le (by decide) qa.ok.co qa.lt
  have n2 := nd_le (by decide) qb.ok.co qb.lt
  have n3 := nd_le (by decide) qc.ok.co qc.lt
  have m0 := Int.mul_nonneg qa.ok.co qb.ok.co
  have nm := nd_le (by decide) m0 (mul_lt qa.ok.co qb.ok.co qa.lt qb.lt)
  have f : ∀ x : Int, 0 ≤ x → nd x ≤ 200 → Fits r x := fun x h0 h1 => fits_small p1 (by omega) g.l2 g.h1 h0 (by omega)
  refine ⟨⟨⟨qa.ok, f _ qa.ok.co (by omega), g.f1, g.f2⟩, ⟨qb.ok, f _ qb.ok.co (by omega), g.f1, g.f2⟩, f _ m0 (by omega), mulW_of (natAbs_lt qa.ok.co qa.lt) (natAbs_lt qb.ok.co qb.lt) (by decide)⟩, ⟨qc.ok, f _ qc.ok.co (by omega), g.f1, g.f2⟩, by omega, by omega, by omega, by omega, by omega⟩
theorem nan2 {r : Ru} {a b : Dc} (ha : a.e.isNan = false) (hb : b.e.isNan = false) : nanOf r [a, b] = none := by
  unfold nanOf
  simp [ha, hb]
/-- the sum of two finite ones, as it is finished -/
theorem NearX.fin {r : Ru} {s1 c1 e1 s2 c2 e2 : Int} (q : NearX ⟨s1, c1, .fin e1⟩ ⟨s2, c2, .fin e2⟩) (g : SmallQ r 9) : NearQ s1 c1 e1 s2 c2 e2 ∧ mAdd r ⟨s1, c1, .fin e1⟩ ⟨s2, c2, .fin e2⟩ = sumO r s1 c1 e1 s2 c2 e2 := by
  have a := q.ep e1 rfl
  have b := q.ec e2 rfl
  have b60 : (10 : Int) ^ 40 ≤ 10 ^ 60 := pw_le (by decide)
  exact ⟨⟨q.op.sg, q.oc.sg, q.op.co, q.oc.co, Int.lt_of_lt_of_le q.lp b60, Int.lt_of_lt_of_le q.lc b60, by omega, by omega⟩, addF_fin g.p1 g.l2 g.h1 q.op.sg q.oc.sg q.op.co q.oc.co⟩
def g_law_fma_right : List D → Ow → DK → Prop := fun ds O P => ∃ r a b c, ds = [ruT r, givX a, givX b, givX c, (mFma r a b c).told] ∧ SmallQ r 9 ∧ AnyQ a ∧ AnyQ b ∧ AnyQ c ∧ P (.bl true) O
theorem digS_str (n : Nat) : digS (Str.ofString (toString (n : Int))) := by
  unfold digS
  rw [cl_str]
  intro c hc
  obtain ⟨x, hx, rfl⟩ := List.mem_map.mp hc
  have := Nat.isDigit_of_mem_toDigits (b := 10) (by decide) (by decide) hx
  simp only [Char.isDigit, Bool.and_eq_true, decide_eq_true_eq] at this
  exact ⟨this.1, this.2⟩
/-! ### comprehensions over such parts -/
def thirdD : D → D
  | .tup [_, _, x] => x
  | _ => .non
def secondD : D → D
  | .tup [_, x, _] => x
  | _ => .non
theorem set_at {ρ : DEnv} {j : Nat} {d : D} (h : j < ρ.length) : (ρ.set j (some d))[j]? = some (some d) := List.getElem?_set_self h
theorem comp_let {as : List Dc} {j : Nat} {z : Str} {ρ : DEnv} {O : Ow} {P : DK} (hj : j < ρ.length) (h : P (.lst ((as.filter fun a => seq a.e.d (.str z)).map givX)) O) : dComp (as.map givX) j (dTest (dOp fEq (dOp fIxT (dVar j) (dC (.int 2))) (dC (.str z)))) (dVar j) ρ O P := by
  refine comp_map (fun d => seq (thirdD d) (.str z)) id (fun d hd Q q => ?_) (fun d hd _ Q q => ⟨d, set_at hj, q⟩) ?_
  · obtain ⟨a, _, rfl⟩ := List.mem_map.mp hd
    exact ⟨_, set_at hj, _, _, rfl, rfl, a.e.d, rfl, sc_ex _ _, _, rfl, q⟩
  · rw [List.map_id, List.filter_map]
    exact h
theorem comp_nul {as : List Dc} {j : Nat} {ρ : DEnv} {O : Ow} {P : DK} (hj : j < ρ.length) (h : P (.lst ((as.filter fun a => (!seq a.e.d (.str "F")) && decide (a.c = 0)).map fun _ => .int 1)) O) : dComp (as.map givX) j (dAnd (dTest (dOp fNe (dOp fIxT (dVar j) (dC (.int 2))) (dC (.str "F")))) (dTest (dOp fEq (dOp fIxT (dVar j) (dC (.int 1))) (dC (.int 0))))) (dC (.int 1)) ρ O P := by
  refine comp_map (fun d => (!seq (thirdD d) (.str "F")) && seq (secondD d) (.int 0)) (fun _ => .int 1) (fun d hd Q q => ?_) (fun d hd _ Q q => q) ?_
  · obtain ⟨a, _, rfl⟩ := List.mem_map.mp hd
    refine ⟨_, set_at hj, _, _, rfl, rfl, a.e.d, rfl, sc_ex _ _, _, rfl, ?_⟩
    cases hs : seq a.e.d (.str "F") with
    | false =>
      refine iteT ⟨_, set_at hj, _, _, rfl, rfl, .int a.c, rfl, rfl, _, rfl, ?_⟩
      have e : thirdD (givX a) = a.e.d := rfl
      rw [e, hs] at q
      exact q
    | true =>
      have e : thirdD (givX a) = a.e.d := rfl
      rw [e, hs] at q
      exact iteF q
  · rw [List.filter_map, List.map_map]
    exact h
/-- the NaNs of two operands, as the laws look for them -/
theorem nan_law {r : Ru} {a b : Dc} : (([a, b].filter fun x => seq x.e.d (.str "N")) ++ ([a, b].filter fun x => seq x.e.d (.str "n")) = [] ∧ nanOf r [a, b] = none) ∨
    ∃ y rest, ([a, b].filter fun x => seq x.e.d (.str "N")) ++ ([a, b].filter fun x => seq x.e.d (.str "n")) = y :: rest ∧ rest.length ≤ 1 ∧ (y = a ∨ y = b) ∧ ((y.e = .sn ∧ nanOf r [a, b] = some ⟨.dec ⟨y.s, kept r y.c, .qn⟩, ["InvalidOperation"]⟩) ∨ (y.e = .qn ∧ nanOf r [a, b] = some ⟨.dec ⟨y.s, kept r y.c, .qn⟩, []⟩)) := by
  simp only [ex_N, ex_n]
  obtain ⟨s1, c1, e1⟩ := a
  obtain ⟨s2, c2, e2⟩ := b
  cases e1 <;> cases e2 <;> first
    | exact .inl ⟨rfl, rfl⟩
    | exact .inr ⟨_, [], rfl, Nat.zero_le _, .inl rfl, .inl ⟨rfl, rfl⟩⟩
    | exact .inr ⟨_, [], rfl, Nat.zero_le _, .inl rfl, .inr ⟨rfl, rfl⟩⟩
    | exact .inr ⟨_, [], rfl, Nat.zero_le _, .inr rfl, .inl ⟨rfl, rfl⟩⟩
    | exact .inr ⟨_, [], rfl, Nat.zero_le _, .inr rfl, .inr ⟨rfl, rfl⟩⟩
    | exact .inr ⟨_, [_], rfl, Nat.le_refl _, .inl rfl, .inl ⟨rfl, rfl⟩⟩
    | exact .inr ⟨_, [_], rfl, Nat.le_refl _, .inl rfl, .inr ⟨rfl, rfl⟩⟩
    | exact .inr ⟨_, [_], rfl, Nat.le_refl _, .inr rfl, .inl ⟨rfl, rfl⟩⟩
    | exact .inr ⟨_, [_], rfl, Nat.le_refl _, .inr rfl, .inr ⟨rfl, rfl⟩⟩
theorem shp_lstX {y : Dc} {rest : List Dc} (h : rest.length ≤ 1) : shp (.lst ((y :: rest).map givX)) := by
  match rest, h with
  | [], _ => exact shp_lstX1 y
  | [z], _ => exact shp_lstX2 y z
theorem deq_consL {d : D} {ds : List D} : deq (.lst (d :: ds)) (.lst []) = false := by
  unfold deq dpy dpys
  unfold dpys
  rfl
theorem shp_one : shp (.lst [.int 1]) := ⟨rfl, by decide +kernel⟩
theorem ten_lt {k : Nat} (h : k ≤ 19) : (10 : Int) ^ k < 10 ^ 40 := by
  have := pw_le h
  have e : (10 : Int) ^ 19 < 10 ^ 40 := by decide
  omega
end Tw

namespace Tw
open PySem L2
/-! ### the family of k49 to k64: frames, numbers -/
def g_law_tens : List D → Ow → DK → Prop := fun ds O P => ∃ i, ds = [.int i] ∧ 0 ≤ i ∧ i ≤ 10000 ∧ P (.int (10 ^ i.toNat)) O
/-- a coefficient of at most so many figures -/
def g_law_numberF : List D → Ow → DK → Prop := fun ds O P => ∃ W m, ds = [.ref W, .int m] ∧ ∃ n, O W = some (.well n) ∧ 1 ≤ m ∧ m ≤ 1000 ∧ m + 5 ≤ n ∧ ∀ c : Int, 0 ≤ c → c < 10 ^ (m + 1).toNat → ∀ n', n - (m + 5) ≤ n' → P (.int c) (updO O W (.well n'))
def g_law_frame : List D → Ow → DK → Prop := fun ds O P => ∃ W, ds = [.ref W] ∧ ∃ n, O W = some (.well n) ∧ 20 ≤ n ∧ ∀ r n', WideQ r 30 → n - 20 ≤ n' → P (ruT r) (updO O W (.well n'))
def g_law_near : List D → Ow → DK → Prop := fun ds O P => ∃ W r, ds = [.ref W, ruT r] ∧ ∃ n, O W = some (.well n) ∧ WideQ r 1000 ∧ 5 ≤ n ∧ ∀ e : Int, -1000000000000003000 ≤ e → e ≤ 1000000000000003000 → ∀ n', n - 5 ≤ n' → P (.int e) (updO O W (.well n'))
def g_law_ground : List D → Ow → DK → Prop := fun ds O P => ∃ r, ds = [ruT r] ∧ WideQ r 1000 ∧ ∀ a, O a = none → P (.ref a) (updO O a (.ctx r 1 [] []))
/-! ### finishing, as these laws work it out -/
def finT (r : Ru) (s c e : Int) : D := .tup [givX (decO (finP r s c e).d), .lst ((sigs (finP r s c e).ws).map D.str)]
def overT (r : Ru) (s : Int) : D := .tup [givX (decO (over r s).d), .lst ((sigs (over r s).ws).map D.str)]
def isUp (w : Str) (s left rest u : Int) : Bool := decide (0 < rest) && goesUp w s left (b2i (decide (u < 2 * rest)) - b2i (decide (2 * rest < u)))
def g_law_raised : List D → Ow → DK → Prop := fun ds O P => ∃ w s left rest u, ds = [.str w, .int s, .int left, .int rest, .int u] ∧ D.str w ∈ rdsD ∧ (s = 0 ∨ s = 1) ∧ 0 ≤ rest ∧ CMulW 2 rest ∧ P (.bl (isUp w s left rest u)) O
def g_law_over : List D → Ow → DK → Prop := fun ds O P => ∃ r s, ds = [ruT r, .int s] ∧ (s = 0 ∨ s = 1) ∧ 1 ≤ r.prec ∧ r.prec ≤ 10000 ∧ P (overT r s) O
def g_law_finished : List D → Ow → DK → Prop := fun ds O P => ∃ r s c e, ds = [ruT r, givD s c e] ∧ FitQ r s c e ∧ D.str r.rnd ∈ rdsD ∧ 0 ≤ r.clamp ∧ r.clamp ≤ 1 ∧ P (finT r s c e) O
/-- an outcome as these laws hold it: the parts, and the list of the signals -/
def outT (o : Out) : D := .tup [givX (decO o.d), .lst ((sigs o.ws).map D.str)]
def optN : Option Out → D
  | none => .non
  | some o => outT o
theorem optN_none : optN none = .non := rfl
theorem optN_some {o : Out} : optN (some o) = outT o := rfl
/-- the NaN rule of these laws, over a tuple of parts -/
def g_law_nan : List D → Ow → DK → Prop := fun ds O P => ∃ r as, ds = [ruT r, .tup (as.map givX)] ∧ (∀ a ∈ as, 0 ≤ a.c) ∧ as.length ≤ 2 ∧ 0 ≤ r.clamp ∧ r.clamp ≤ r.prec ∧ r.prec ≤ 1000 ∧ P (optN (nanOf r as)) O
theorem nan_sn {r : Ru} {as rest : List Dc} {y : Dc} (h : (as.filter fun a => a.e.isSn) = y :: rest) : nanOf r as = some ⟨.dec ⟨y.s, kept r y.c, .qn⟩, ["InvalidOperation"]⟩ := by
  have e : (as.filter fun a => a.e.isNan).filter (fun a => a.e.isSn) = as.filter fun a => a.e.isSn := by
    rw [List.filter_filter]
    congr 1
    funext a
    cases a.e <;> rfl
  unfold nanOf
  cases hn : as.filter fun a => a.e.isNan with
  | nil =>
    rw [hn, h] at e
    cases e
  | cons x xs =>
    show some (match (x :: xs).filter (fun a => a.e.isSn) with | [] => _ | y :: _ => _) = _
    rw [← hn, e, h]
theorem nan_qn {r : Ru} {as rest : List Dc} {y : Dc} (h0 : (as.filter fun a => a.e.isSn) = []) (h : (as.filter fun a => decide (a.e = .qn)) = y :: rest) : nanOf r as = some ⟨.dec ⟨y.s, kept r y.c, .qn⟩, []⟩ := by
  have e : (as.filter fun a => a.e.isNan).filter (fun a => a.e.isSn) = [] := by
    rw [← h0, List.filter_filter]
    congr 1
    funext a
    cases a.e <;> rfl
  have e2 : (as.filter fun a => a.e.isNan) = as.filter fun a => decide (a.e = .qn) := by
    refine List.filter_congr fun a ha => ?_
    have hs : a.e.isSn ≠ true := List.filter_eq_nil_iff.mp h0 a ha
    cases he : a.e <;> rw [he] at hs <;> first | rfl | exact absurd rfl hs
  unfold nanOf
  rw [e2, h]
  show some (match (y :: rest).filter (fun a => a.e.isSn) with | [] => _ | y :: _ => _) = _
  rw [← h, ← e2, e]
theorem nan_no {r : Ru} {as : List Dc} (h0 : (as.filter fun a => a.e.isSn) = []) (h : (as.filter fun a => decide (a.e = .qn)) = []) : nanOf r as = none := by
  have e2 : (as.filter fun a => a.e.isNan) = as.filter fun a => decide (a.e = .qn) := by
    refine List.filter_congr fun a ha => ?_
    have hs : a.e.isSn ≠ true := List.filter_eq_nil_iff.mp h0 a ha
    cases he : a.e <;> rw [he] at hs <;> first | rfl | exact absurd rfl hs
  unfold nanOf
  rw [e2, h]
theorem shp_lstX0 {as : List Dc} (h : as.length ≤ 2) : shp (.lst (as.map givX)) := by
  match as, h with
  | [], _ => exact shp_nilL
  | [a], _ => exact shp_lstX1 a
  | [a, b], _ => exact shp_lstX2 a b
/-! ### shapes, put together -/
def shpN (n : Nat) (d : D) : Prop := isPy d = true ∧ PyData.canLay0 (dpy d) = true ∧ PyData.depth (dpy d) ≤ n
def shpNs (n : Nat) (ds : List D) : Prop := isPys ds = true ∧ PyData.canLayAll0 (dpys ds) = true ∧ PyData.depthAll (dpys ds) ≤ n
theorem shpN.shp {n : Nat} {d : D} (h : shpN n d) (hn : n ≤ 64 := by decide) : shp d := by
  obtain ⟨a, b, c⟩ := h
  refine ⟨a, ?_⟩
  unfold SeqAt.shaped
  rw [b, decide_eq_true (Nat.le_trans c hn)]
  rfl
theorem shpN_non {n : Nat} : shpN n .non := ⟨rfl, rfl, Nat.zero_le _⟩
theorem shpN_bl {n : Nat} {b : Bool} : shpN n (.bl b) := ⟨rfl, rfl, Nat.zero_le _⟩
theorem shpN_int {n : Nat} {i : Int} : shpN n (.int i) := ⟨rfl, rfl, Nat.zero_le _⟩
theorem shpN_str {n : Nat} {z : Str} (h : PyData.strOk z = true) : shpN n (.str z) := ⟨rfl, h, Nat.zero_le _⟩
theorem shpNs_nil {n : Nat} : shpNs n [] := ⟨rfl, rfl, Nat.zero_le _⟩
theorem shpNs_cons {n : Nat} {d : D} {ds : List D} (h : shpN n d) (hs : shpNs n ds) : shpNs n (d :: ds) := by
  obtain ⟨a, b, c⟩ := h
  obtain ⟨a', b', c'⟩ := hs
  refine ⟨?_, ?_, ?_⟩
  · show (isPy d && isPys ds) = true
    rw [a, a']
    rfl
  · show (PyData.canLay0 (dpy d) && PyData.canLayAll0 (dpys ds)) = true
    rw [b, b']
    rfl
  · show max (PyData.depth (dpy d)) (PyData.depthAll (dpys ds)) ≤ n
    exact Nat.max_le.mpr ⟨c, c'⟩
theorem shpN_tup {n : Nat} {ds : List D} (h : shpNs n ds) : shpN (n + 1) (.tup ds) := ⟨h.1, h.2.1, Nat.succ_le_succ h.2.2⟩
theorem shpN_lst {n : Nat} {ds : List D} (h : shpNs n ds) : shpN (n + 1) (.lst ds) := ⟨h.1, h.2.1, Nat.succ_le_succ h.2.2⟩
theorem shpNs_all {n : Nat} : ∀ {ds : List D}, (∀ d ∈ ds, shpN n d) → shpNs n ds
  | [], _ => shpNs_nil
  | d :: _, h => shpNs_cons (h d (List.mem_cons_self ..)) (shpNs_all fun x hx => h x (List.mem_cons_of_mem _ hx))
theorem shpN_ex {n : Nat} (e : Ex4) : shpN n e.d := by
  cases e with
  | fin i => exact shpN_int
  | inf => exact shpN_str (by decide +kernel)
  | qn => exact shpN_str (by decide +kernel)
  | sn => exact shpN_str (by decide +kernel)
theorem shpN_givX {n : Nat} (a : Dc) : shpN (n + 1) (givX a) := shpN_tup (shpNs_cons shpN_int (shpNs_cons shpN_int (shpNs_cons (shpN_ex _) shpNs_nil)))
theorem shpNs_strs {n : Nat} {zs : List Str} (h : ∀ z ∈ zs, PyData.strOk z = true) : shpNs n (zs.map D.str) := shpNs_all fun d hd => by
  obtain ⟨z, hz, rfl⟩ := List.mem_map.mp hd
  exact shpN_str (h z hz)
/-! ### the names of conditions -/
def condL : List Str := ["InvalidOperation", "ConversionSyntax", "DivisionImpossible", "DivisionUndefined", "DivisionByZero", "Overflow", "Underflow", "Subnormal", "Inexact", "Rounded", "Clamped"]
def Named (o : Out) : Prop := ∀ z ∈ o.ws, z ∈ condL
theorem cond_ok {z : Str} (h : z ∈ condL) : PyData.strOk (sigOf z) = true := by
  simp only [condL, List.mem_cons, List.not_mem_nil, or_false] at h
  rcases h with h | h | h | h | h | h | h | h | h | h | h <;> (rw [h]; decide +kernel)
theorem sigs_mem {ws : List Str} {z : Str} (h : z ∈ sigs ws) : ∃ y ∈ ws, sigOf y = z := by
  unfold sigs at h
  have h := (sortS_perm _).mem_iff.mp h
  rw [dct_keys, List.map_map] at h
  obtain ⟨y, hy, e⟩ := List.mem_map.mp (keysOf_mem h)
  exact ⟨y, hy, e⟩
theorem Named.ok {o : Out} (h : Named o) : ∀ z ∈ sigs o.ws, PyData.strOk z = true := fun z hz => by
  obtain ⟨y, hy, rfl⟩ := sigs_mem hz
  exact cond_ok (h y hy)
theorem Named.shp {o : Out} (h : Named o) : shp (outT o) := (shpN_tup (n := 2) (shpNs_cons (shpN_givX _) (shpNs_cons (shpN_lst (shpNs_strs h.ok)) shpNs_nil))).shp
theorem finP_named (r : Ru) (s c e : Int) : Named (finP r s c e) := by
  unfold Named finP finZ finCut over cutW zWords condL
  repeat' split
  all_goals simp
theorem nanOf_named {r : Ru} {as : List Dc} {o : Out} (h : nanOf r as = some o) : Named o := by
  rcases nanOf_ws h with w | w <;> (unfold Named; rw [w]; simp [condL])
theorem sortS_idem (l : List Str) : sortS (sortS l) = sortS l := sorted_uniq (sortS_perm (sortS l)) (sortS_pw _) (sortS_pw _)
theorem roundL_min {rn : Str} {s c cut : Int} (hc : 0 < c) (h : 0 < cut) : roundL rn s c cut = roundL rn s c (min cut (nd c + 2)) ∧ cutInex c cut = cutInex c (min cut (nd c + 2)) := by
  by_cases h1 : cut ≤ nd c + 2
  · rw [show min cut (nd c + 2) = cut by omega]
    exact ⟨rfl, rfl⟩
  · rw [show min cut (nd c + 2) = nd c + 2 by omega]
    obtain ⟨a1, a2⟩ := roundL_far (rn := rn) (s := s) hc (show nd c + 1 < cut by omega)
    obtain ⟨b1, b2⟩ := roundL_far (rn := rn) (s := s) hc (show nd c + 1 < nd c + 2 by omega)
    exact ⟨a1.trans b1.symm, a2.trans b2.symm⟩
theorem finF_cut0 {r : Ru} {s c e : Int} (c0 : 0 ≤ c) (hc : 0 < c) (hl : e < max r.etiny (e + nd c - 1 - r.prec + 1)) :
    (c / 10 ^ (min (max (r.emin - r.prec + 1) (e + nd c - 1 - r.prec + 1) - e) (nd c + 2)).toNat + if isUp r.rnd s (c / 10 ^ (min (max (r.emin - r.prec + 1) (e + nd c - 1 - r.prec + 1) - e) (nd c + 2)).toNat) (c % 10 ^ (min (max (r.emin - r.prec + 1) (e + nd c - 1 - r.prec + 1) - e) (nd c + 2)).toNat) (10 ^ (min (max (r.emin - r.prec + 1) (e + nd c - 1 - r.prec + 1) - e) (nd c + 2)).toNat) = true then (1 : Int) else 0) = roundL r.rnd s c (max (r.emin - r.prec + 1) (e + nd c - 1 - r.prec + 1) - e) ∧
    decide (0 < c % 10 ^ (min (max (r.emin - r.prec + 1) (e + nd c - 1 - r.prec + 1) - e) (nd c + 2)).toNat) = cutInex c (max (r.emin - r.prec + 1) (e + nd c - 1 - r.prec + 1) - e) := by
  have hl : e < max (r.emin - r.prec + 1) (e + nd c - 1 - r.prec + 1) := hl
  generalize max (r.emin - r.prec + 1) (e + nd c - 1 - r.prec + 1) = L at hl ⊢
  have n1 := nd_pos c
  obtain ⟨a1, a2⟩ := roundL_min (rn := r.rnd) (s := s) hc (show 0 < L - e by omega)
  rw [a1, a2]
  have m0 : 0 ≤ min (L - e) (nd c + 2) := by omega
  rw [roundL_eq c0 m0, (cut_true c0 m0).2.1]
  refine ⟨?_, rfl⟩
  unfold isUp
  split
  · rfl
  · omega
theorem finF_cut {r : Ru} {s c e : Int} (f : FitQ r s c e) (hc : 0 < c) (hl : e < max r.etiny (e + nd c - 1 - r.prec + 1)) :
    (c / 10 ^ (min (max (r.emin - r.prec + 1) (e + nd c - 1 - r.prec + 1) - e) (nd c + 2)).toNat + if isUp r.rnd s (c / 10 ^ (min (max (r.emin - r.prec + 1) (e + nd c - 1 - r.prec + 1) - e) (nd c + 2)).toNat) (c % 10 ^ (min (max (r.emin - r.prec + 1) (e + nd c - 1 - r.prec + 1) - e) (nd c + 2)).toNat) (10 ^ (min (max (r.emin - r.prec + 1) (e + nd c - 1 - r.prec + 1) - e) (nd c + 2)).toNat) = true then (1 : Int) else 0) = roundL r.rnd s c (max (r.emin - r.prec + 1) (e + nd c - 1 - r.prec + 1) - e) ∧
    decide (0 < c % 10 ^ (min (max (r.emin - r.prec + 1) (e + nd c - 1 - r.prec + 1) - e) (nd c + 2)).toNat) = cutInex c (max (r.emin - r.prec + 1) (e + nd c - 1 - r.prec + 1) - e) := finF_cut0 f.c0 hc hl
theorem sigs_sub : ∀ b d : Bool, (sigs ((if b = true then (["Subnormal"] : List Str) else []) ++ (if d = true then (["Clamped"] : List Str) else []))).map D.str = optL d [.str "Clamped"] ++ optL b [.str "Subnormal"] := by
  intro b d
  cases b <;> cases d <;> rfl
/-! ### k59: exponents told -/
structure LogQ (a : Dc) : Prop where
  ok : a.Ok
  lt : a.c < 10 ^ 50
  ex : ∀ n, a.e = .fin n → -10000000000000000000 ≤ n ∧ n ≤ 10000000000000000000
theorem LogQ.size {a : Dc} (q : LogQ a) {n : Int} (h : a.e = .fin n) : ((n + nd a.c - 1).natAbs : Int) < 10 ^ 21 := by
  obtain ⟨h1, h2⟩ := q.ex n h
  have h3 := nd_le (by decide) q.ok.co q.lt
  have h4 := nd_pos a.c
  have e : (10 : Int) ^ 21 = 1000000000000000000000 := by decide
  rw [e]
  omega
theorem LogQ.fitQ {a : Dc} {r : Ru} {m n : Int} (q : LogQ a) (g : WideQ r m) (hm : m ≤ 1000) (h : a.e = .fin n) : FitQ r (sgI (n + nd a.c - 1)) ((n + nd a.c - 1).natAbs : Int) 0 := g.fitQ hm (sgI_or _) (by omega) (by decide) (by decide) (q.size h)
theorem LogQ.fit {a : Dc} {r : Ru} {m : Int} (q : LogQ a) (g : WideQ r m) (hm : m ≤ 1000) : FitLogb r a := by
  have p2 := g.p2
  have h3 := nd_le (by decide) q.ok.co q.lt
  exact ⟨⟨q.ok, fits_small g.p1 (by omega) g.l2 g.h1 q.ok.co (by omega), g.f1, g.f2⟩, fun n h => (q.fitQ g hm h).fits⟩
theorem mLogb_named (r : Ru) (a : Dc) : Named (mLogb r a) := by
  unfold mLogb
  split
  · rename_i h
    exact nanOf_named h
  · split
    · split
      · unfold Named condL
        simp
      · exact finP_named _ _ _ _
    · unfold Named
      simp
def g_law_due59 : List D → Ow → DK → Prop := fun ds O P => ∃ r a, ds = [ruT r, givX a] ∧ WideQ r 30 ∧ LogQ a ∧ P (outT (mLogb r a)) O
def g_law_things59 : List D → Ow → DK → Prop := fun ds O P => ∃ W r, ds = [.ref W, ruT r] ∧ ∃ n, O W = some (.well n) ∧ WideQ r 30 ∧ 1000 ≤ n ∧ ∀ as : List Dc, as.length ≤ 11 → (∀ a ∈ as, LogQ a) → ∀ n', n - 1000 ≤ n' → P (.lst (as.map givX)) (updO O W (.well n'))
end Tw

namespace Tw
open PySem L2
def top (i : Nat) : Stmt := PySem.Challenge.pw_tenwhole_k92_whole_ratios_and_integers.main.body.getD i (.Pass ⟨0, 0, 0, 0⟩)
abbrev s_Decimal___init__ : Stmt := inClass (top 13) 0
abbrev s_Decimal_adjusted : Stmt := inClass (top 13) 1
abbrev s_Decimal___eq__ : Stmt := inClass (top 13) 3
abbrev s_is_integer : Stmt := top 14
abbrev s_is_exponent : Stmt := top 15
abbrev s_is_finite : Stmt := top 16
abbrev s_is_infinite : Stmt := top 17
abbrev s_is_nan : Stmt := top 18
abbrev s_decimal_of : Stmt := top 19
abbrev s_tens : Stmt := top 20
abbrev s_count_digits : Stmt := top 21
abbrev s_order_of : Stmt := top 22
abbrev s_side_of : Stmt := top 23
abbrev s_size_order : Stmt := top 24
abbrev s_power_modulo : Stmt := top 28
abbrev s_number_hash : Stmt := top 29
abbrev s_finite_of : Stmt := top 30
abbrev s_common_factor : Stmt := top 31
abbrev s_ratio : Stmt := top 32
abbrev s_cut_whole : Stmt := top 33
abbrev s_with_sign_of : Stmt := top 34
abbrev s_truncated : Stmt := top 35
abbrev s_floored : Stmt := top 36
abbrev s_ceiled : Stmt := top 37
abbrev s_nearest : Stmt := top 38
abbrev s__law_well : Stmt := top 40
abbrev s__law_draw : Stmt := top 41
abbrev s__law_pick : Stmt := top 42
abbrev s__law_tens : Stmt := top 43
abbrev s__law_whole : Stmt := top 44
abbrev s__law_size : Stmt := top 45
abbrev s__law_common : Stmt := top 46
abbrev s__law_ratio_right : Stmt := top 47
abbrev s__law_integers_right : Stmt := top 48
abbrev s__law_stays : Stmt := top 49
abbrev s__law_tiny_right : Stmt := top 50
abbrev s__law_zero_right : Stmt := top 51
abbrev s__law_number : Stmt := top 52
abbrev s__law_long_right : Stmt := top 53
abbrev s_law : Stmt := top 54
theorem sc_Decimal___init__ : FnScope ["self", "sign", "coefficient", "exponent"] ["self", "sign", "coefficient", "exponent"] (defScope s_Decimal___init__) := ⟨rfl, rfl, rfl, by decide +kernel, rfl, by decide +kernel, by decide +kernel⟩
theorem sc_Decimal_adjusted : FnScope ["self"] ["self"] (defScope s_Decimal_adjusted) := ⟨rfl, rfl, rfl, by decide +kernel, rfl, by decide +kernel, by decide +kernel⟩
theorem sc_Decimal___eq__ : FnScope ["self", "other"] ["self", "other"] (defScope s_Decimal___eq__) := ⟨rfl, rfl, rfl, by decide +kernel, rfl, by decide +kernel, by decide +kernel⟩
theorem sc_is_integer : FnScope ["thing"] ["thing"] (defScope s_is_integer) := ⟨rfl, rfl, rfl, by decide +kernel, rfl, by decide +kernel, by decide +kernel⟩
theorem sc_is_exponent : FnScope ["thing"] ["thing"] (defScope s_is_exponent) := ⟨rfl, rfl, rfl, by decide +kernel, rfl, by decide +kernel, by decide +kernel⟩
theorem sc_is_finite : FnScope ["a"] ["a"] (defScope s_is_finite) := ⟨rfl, rfl, rfl, by decide +kernel, rfl, by decide +kernel, by decide +kernel⟩
theorem sc_is_infinite : FnScope ["a"] ["a"] (defScope s_is_infinite) := ⟨rfl, rfl, rfl, by decide +kernel, rfl, by decide +kernel, by decide +kernel⟩
theorem sc_is_nan : FnScope ["a"] ["a"] (defScope s_is_nan) := ⟨rfl, rfl, rfl, by decide +kernel, rfl, by decide +kernel, by decide +kernel⟩
theorem sc_decimal_of : FnScope ["operand"] ["operand"] (defScope s_decimal_of) := ⟨rfl, rfl, rfl, by decide +kernel, rfl, by decide +kernel, by decide +kernel⟩
theorem sc_tens : FnScope ["many", "found", "base"] ["many"] (defScope s_tens) := ⟨rfl, rfl, rfl, by decide +kernel, rfl, by decide +kernel, by decide +kernel⟩
theorem sc_count_digits : FnScope ["number", "found"] ["number"] (defScope s_count_digits) := ⟨rfl, rfl, rfl, by decide +kernel, rfl, by decide +kernel, by decide +kernel⟩
theorem sc_order_of : FnScope ["a", "b", "first", "second"] ["a", "b"] (defScope s_order_of) := ⟨rfl, rfl, rfl, by decide +kernel, rfl, by decide +kernel, by decide +kernel⟩
theorem sc_side_of : FnScope ["a", "found"] ["a"] (defScope s_side_of) := ⟨rfl, rfl, rfl, by decide +kernel, rfl, by decide +kernel, by decide +kernel⟩
theorem sc_size_order : FnScope ["a", "b", "shift", "one", "other"] ["a", "b"] (defScope s_size_order) := ⟨rfl, rfl, rfl, by decide +kernel, rfl, by decide +kernel, by decide +kernel⟩
theorem sc_power_modulo : FnScope ["base", "many", "modulo", "found"] ["base", "many", "modulo"] (defScope s_power_modulo) := ⟨rfl, rfl, rfl, by decide +kernel, rfl, by decide +kernel, by decide +kernel⟩
theorem sc_number_hash : FnScope ["a", "base", "found"] ["a"] (defScope s_number_hash) := ⟨rfl, rfl, rfl, by decide +kernel, rfl, by decide +kernel, by decide +kernel⟩
theorem sc_finite_of : FnScope ["a"] ["a"] (defScope s_finite_of) := ⟨rfl, rfl, rfl, by decide +kernel, rfl, by decide +kernel, by decide +kernel⟩
theorem sc_common_factor : FnScope ["one", "other"] ["one", "other"] (defScope s_common_factor) := ⟨rfl, rfl, rfl, by decide +kernel, rfl, by decide +kernel, by decide +kernel⟩
theorem sc_ratio : FnScope ["a", "top", "bottom", "common"] ["a"] (defScope s_ratio) := ⟨rfl, rfl, rfl, by decide +kernel, rfl, by decide +kernel, by decide +kernel⟩
theorem sc_cut_whole : FnScope ["a", "unit", "whole", "rest"] ["a"] (defScope s_cut_whole) := ⟨rfl, rfl, rfl, by decide +kernel, rfl, by decide +kernel, by decide +kernel⟩
theorem sc_with_sign_of : FnScope ["a", "whole"] ["a", "whole"] (defScope s_with_sign_of) := ⟨rfl, rfl, rfl, by decide +kernel, rfl, by decide +kernel, by decide +kernel⟩
theorem sc_truncated : FnScope ["a"] ["a"] (defScope s_truncated) := ⟨rfl, rfl, rfl, by decide +kernel, rfl, by decide +kernel, by decide +kernel⟩
theorem sc_floored : FnScope ["a", "whole", "rest"] ["a"] (defScope s_floored) := ⟨rfl, rfl, rfl, by decide +kernel, rfl, by decide +kernel, by decide +kernel⟩
theorem sc_ceiled : FnScope ["a", "whole", "rest"] ["a"] (defScope s_ceiled) := ⟨rfl, rfl, rfl, by decide +kernel, rfl, by decide +kernel, by decide +kernel⟩
theorem sc_nearest : FnScope ["a", "whole", "rest"] ["a"] (defScope s_nearest) := ⟨rfl, rfl, rfl, by decide +kernel, rfl, by decide +kernel, by decide +kernel⟩
theorem sc__law_well : FnScope ["_law_cell"] ["_law_cell"] (defScope s__law_well) := ⟨rfl, rfl, rfl, by decide +kernel, rfl, by decide +kernel, by decide +kernel⟩
theorem sc__law_draw : FnScope ["_law_well_here", "_law_many", "_law_digit", "_law_number_here"] ["_law_well_here", "_law_many"] (defScope s__law_draw) := ⟨rfl, rfl, rfl, by decide +kernel, rfl, by decide +kernel, by decide +kernel⟩
theorem sc__law_pick : FnScope ["_law_well_here", "_law_some"] ["_law_well_here", "_law_some"] (defScope s__law_pick) := ⟨rfl, rfl, rfl, by decide +kernel, rfl, by decide +kernel, by decide +kernel⟩
theorem sc__law_tens : FnScope ["_law_many"] ["_law_many"] (defScope s__law_tens) := ⟨rfl, rfl, rfl, by decide +kernel, rfl, by decide +kernel, by decide +kernel⟩
theorem sc__law_whole : FnScope ["_law_well_here", "_law_most", "_law_way", "_law_text", "_law_turn"] ["_law_well_here", "_law_most"] (defScope s__law_whole) := ⟨rfl, rfl, rfl, by decide +kernel, rfl, by decide +kernel, by decide +kernel⟩
theorem sc__law_size : FnScope ["_law_number_here"] ["_law_number_here"] (defScope s__law_size) := ⟨rfl, rfl, rfl, by decide +kernel, rfl, by decide +kernel, by decide +kernel⟩
theorem sc__law_common : FnScope ["_law_one", "_law_other", "_law_turn"] ["_law_one", "_law_other"] (defScope s__law_common) := ⟨rfl, rfl, rfl, by decide +kernel, rfl, by decide +kernel, by decide +kernel⟩
theorem sc__law_ratio_right : FnScope ["_law_a", "_law_found", "_law_side", "_law_top", "_law_bottom"] ["_law_a"] (defScope s__law_ratio_right) := ⟨rfl, rfl, rfl, by decide +kernel, rfl, by decide +kernel, by decide +kernel⟩
theorem sc__law_integers_right : FnScope ["_law_a", "_law_top", "_law_bottom", "_law_low", "_law_high", "_law_cut", "_law_near", "_law_apart"] ["_law_a", "_law_top", "_law_bottom"] (defScope s__law_integers_right) := ⟨rfl, rfl, rfl, by decide +kernel, rfl, by decide +kernel, by decide +kernel⟩
theorem sc__law_stays : FnScope ["_law_a", "_law_row", "_law_due", "_law_turn", "_law_twin", "_law_found", "_law_ask"] ["_law_a"] (defScope s__law_stays) := ⟨rfl, rfl, rfl, by decide +kernel, rfl, by decide +kernel, by decide +kernel⟩
theorem sc__law_tiny_right : FnScope ["_law_a", "_law_due"] ["_law_a"] (defScope s__law_tiny_right) := ⟨rfl, rfl, rfl, by decide +kernel, rfl, by decide +kernel, by decide +kernel⟩
theorem sc__law_zero_right : FnScope ["_law_well_here", "_law_side", "_law_zero"] ["_law_well_here", "_law_side"] (defScope s__law_zero_right) := ⟨rfl, rfl, rfl, by decide +kernel, rfl, by decide +kernel, by decide +kernel⟩
theorem sc__law_number : FnScope ["_law_well_here", "_law_number_here", "_law_way", "_law_many", "_law_tail"] ["_law_well_here"] (defScope s__law_number) := ⟨rfl, rfl, rfl, by decide +kernel, rfl, by decide +kernel, by decide +kernel⟩
theorem sc__law_long_right : FnScope ["_law_a"] [] (defScope s__law_long_right) := ⟨rfl, rfl, rfl, by decide +kernel, rfl, by decide +kernel, by decide +kernel⟩
theorem sc_law : FnScope ["_law_script", "_law_cell", "_law_well_here", "_law_turn", "_law_a", "_law_side", "_law_top", "_law_bottom", "_law_turned", "_law_tail"] ["_law_script"] (defScope s_law) := ⟨rfl, rfl, rfl, by decide +kernel, rfl, by decide +kernel, by decide +kernel⟩
structure Tx (K : PySem.W.Frag) (mg : Str → Option Value) : Prop where
  g_is_integer : mg "is_integer" = some (.ref (He.ga K "is_integer"))
  g_NoDecimal : mg "NoDecimal" = some (.ref (He.ga K "NoDecimal"))
  g_is_exponent : mg "is_exponent" = some (.ref (He.ga K "is_exponent"))
  c_INFINITY : ∃ t, mg "INFINITY" = some (.str "F" t)
  g_is_finite : mg "is_finite" = some (.ref (He.ga K "is_finite"))
  g_count_digits : mg "count_digits" = some (.ref (He.ga K "count_digits"))
  g_Decimal : mg "Decimal" = some (.ref (He.ga K "Decimal"))
  n_int : mg "int" = none
  n_abs : mg "abs" = none
  n_isinstance : mg "isinstance" = none
  g_is_nan : mg "is_nan" = some (.ref (He.ga K "is_nan"))
  g_order_of : mg "order_of" = some (.ref (He.ga K "order_of"))
  n_bool : mg "bool" = none
  n_str : mg "str" = none
  c_QUIET : ∃ t, mg "QUIET" = some (.str "n" t)
  c_SIGNALING : ∃ t, mg "SIGNALING" = some (.str "N" t)
  g_NoOperand : mg "NoOperand" = some (.ref (He.ga K "NoOperand"))
  c_GREAT : ∃ t, mg "GREAT" = some (.int (10000000000000000000000000000000000000000000000000000000000000000) t)
  c_STEP : ∃ t, mg "STEP" = some (.int (64) t)
  n_len : mg "len" = none
  g_side_of : mg "side_of" = some (.ref (He.ga K "side_of"))
  g_size_order : mg "size_order" = some (.ref (He.ga K "size_order"))
  g_is_infinite : mg "is_infinite" = some (.ref (He.ga K "is_infinite"))
  g_tens : mg "tens" = some (.ref (He.ga K "tens"))
  n_max : mg "max" = none
  g_decimal_of : mg "decimal_of" = some (.ref (He.ga K "decimal_of"))
  g_NoValue : mg "NoValue" = some (.ref (He.ga K "NoValue"))
  c_INFINITE_HASH : ∃ t, mg "INFINITE_HASH" = some (.int (314159) t)
  g_power_modulo : mg "power_modulo" = some (.ref (He.ga K "power_modulo"))
  c_PRIME : ∃ t, mg "PRIME" = some (.int (2305843009213693951) t)
  g_TooGreat : mg "TooGreat" = some (.ref (He.ga K "TooGreat"))
  g_finite_of : mg "finite_of" = some (.ref (He.ga K "finite_of"))
  g_common_factor : mg "common_factor" = some (.ref (He.ga K "common_factor"))
  g_with_sign_of : mg "with_sign_of" = some (.ref (He.ga K "with_sign_of"))
  g_cut_whole : mg "cut_whole" = some (.ref (He.ga K "cut_whole"))
  g__law_draw : mg "_law_draw" = some (.ref (He.ga K "_law_draw"))
  n_range : mg "range" = none
  g_ratio : mg "ratio" = some (.ref (He.ga K "ratio"))
  n_tuple : mg "tuple" = none
  g__law_common : mg "_law_common" = some (.ref (He.ga K "_law_common"))
  g__law_tens : mg "_law_tens" = some (.ref (He.ga K "_law_tens"))
  g_floored : mg "floored" = some (.ref (He.ga K "floored"))
  g_ceiled : mg "ceiled" = some (.ref (He.ga K "ceiled"))
  g_truncated : mg "truncated" = some (.ref (He.ga K "truncated"))
  g_nearest : mg "nearest" = some (.ref (He.ga K "nearest"))
  g_number_hash : mg "number_hash" = some (.ref (He.ga K "number_hash"))
  g__law_pick : mg "_law_pick" = some (.ref (He.ga K "_law_pick"))
  g__law_whole : mg "_law_whole" = some (.ref (He.ga K "_law_whole"))
  g__law_ratio_right : mg "_law_ratio_right" = some (.ref (He.ga K "_law_ratio_right"))
  g__law_well : mg "_law_well" = some (.ref (He.ga K "_law_well"))
  g__law_number : mg "_law_number" = some (.ref (He.ga K "_law_number"))
  g__law_integers_right : mg "_law_integers_right" = some (.ref (He.ga K "_law_integers_right"))
  g__law_stays : mg "_law_stays" = some (.ref (He.ga K "_law_stays"))
  g__law_size : mg "_law_size" = some (.ref (He.ga K "_law_size"))
  g__law_tiny_right : mg "_law_tiny_right" = some (.ref (He.ga K "_law_tiny_right"))
  g__law_zero_right : mg "_law_zero_right" = some (.ref (He.ga K "_law_zero_right"))
  g__law_long_right : mg "_law_long_right" = some (.ref (He.ga K "_law_long_right"))
  g_law : mg "law" = some (.ref (He.ga K "law"))
  cl_Decimal : Cls K (He.ga K "Decimal")
  no_Decimal_sign : NoAttr K (He.ga K "Decimal") "sign"
  no_Decimal_coefficient : NoAttr K (He.ga K "Decimal") "coefficient"
  no_Decimal_exponent : NoAttr K (He.ga K "Decimal") "exponent"
  m_Decimal : Mk K (He.ga K "Decimal") (He.ma K (He.ga K "Decimal") "__init__")
  me_Decimal_adjusted : Meth K (He.ga K "Decimal") "adjusted" (He.ma K (He.ga K "Decimal") "adjusted")
  me_Decimal___eq__ : Meth K (He.ga K "Decimal") "__eq__" (He.ma K (He.ga K "Decimal") "__eq__")
  eqf : EqF K
  ow_Decimal : OwnC K (He.ga K "Decimal")
  dg : digK K = true
  d_Decimal___init__ : ∃ fd, FunD K "__init__" "Decimal.__init__" (defArgs s_Decimal___init__) (defBody s_Decimal___init__) (defScope s_Decimal___init__) [] [] (He.fAd K ("Decimal", some "__init__")) fd
  d_Decimal_adjusted : ∃ fd, FunD K "adjusted" "Decimal.adjusted" (defArgs s_Decimal_adjusted) (defBody s_Decimal_adjusted) (defScope s_Decimal_adjusted) [] [] (He.fAd K ("Decimal", some "adjusted")) fd
  d_Decimal___eq__ : ∃ fd, FunD K "__eq__" "Decimal.__eq__" (defArgs s_Decimal___eq__) (defBody s_Decimal___eq__) (defScope s_Decimal___eq__) [] [] (He.fAd K ("Decimal", some "__eq__")) fd
  d_is_integer : ∃ fd, FunD K "is_integer" "is_integer" (defArgs s_is_integer) (defBody s_is_integer) (defScope s_is_integer) [] [] (He.fAd K ("is_integer", none)) fd
  d_is_exponent : ∃ fd, FunD K "is_exponent" "is_exponent" (defArgs s_is_exponent) (defBody s_is_exponent) (defScope s_is_exponent) [] [] (He.fAd K ("is_exponent", none)) fd
  d_is_finite : ∃ fd, FunD K "is_finite" "is_finite" (defArgs s_is_finite) (defBody s_is_finite) (defScope s_is_finite) [] [] (He.fAd K ("is_finite", none)) fd
  d_is_infinite : ∃ fd, FunD K "is_infinite" "is_infinite" (defArgs s_is_infinite) (defBody s_is_infinite) (defScope s_is_infinite) [] [] (He.fAd K ("is_infinite", none)) fd
  d_is_nan : ∃ fd, FunD K "is_nan" "is_nan" (defArgs s_is_nan) (defBody s_is_nan) (defScope s_is_nan) [] [] (He.fAd K ("is_nan", none)) fd
  d_decimal_of : ∃ fd, FunD K "decimal_of" "decimal_of" (defArgs s_decimal_of) (defBody s_decimal_of) (defScope s_decimal_of) [] [] (He.fAd K ("decimal_of", none)) fd
  d_tens : ∃ fd, FunD K "tens" "tens" (defArgs s_tens) (defBody s_tens) (defScope s_tens) [] [] (He.fAd K ("tens", none)) fd
  d_count_digits : ∃ fd, FunD K "count_digits" "count_digits" (defArgs s_count_digits) (defBody s_count_digits) (defScope s_count_digits) [] [] (He.fAd K ("count_digits", none)) fd
  d_order_of : ∃ fd, FunD K "order_of" "order_of" (defArgs s_order_of) (defBody s_order_of) (defScope s_order_of) [] [] (He.fAd K ("order_of", none)) fd
  d_side_of : ∃ fd, FunD K "side_of" "side_of" (defArgs s_side_of) (defBody s_side_of) (defScope s_side_of) [] [] (He.fAd K ("side_of", none)) fd
  d_size_order : ∃ fd, FunD K "size_order" "size_order" (defArgs s_size_order) (defBody s_size_order) (defScope s_size_order) [] [] (He.fAd K ("size_order", none)) fd
  d_power_modulo : ∃ fd, FunD K "power_modulo" "power_modulo" (defArgs s_power_modulo) (defBody s_power_modulo) (defScope s_power_modulo) [] [] (He.fAd K ("power_modulo", none)) fd
  d_number_hash : ∃ fd, FunD K "number_hash" "number_hash" (defArgs s_number_hash) (defBody s_number_hash) (defScope s_number_hash) [] [] (He.fAd K ("number_hash", none)) fd
  d_finite_of : ∃ fd, FunD K "finite_of" "finite_of" (defArgs s_finite_of) (defBody s_finite_of) (defScope s_finite_of) [] [] (He.fAd K ("finite_of", none)) fd
  d_common_factor : ∃ fd, FunD K "common_factor" "common_factor" (defArgs s_common_factor) (defBody s_common_factor) (defScope s_common_factor) [] [] (He.fAd K ("common_factor", none)) fd
  d_ratio : ∃ fd, FunD K "ratio" "ratio" (defArgs s_ratio) (defBody s_ratio) (defScope s_ratio) [] [] (He.fAd K ("ratio", none)) fd
  d_cut_whole : ∃ fd, FunD K "cut_whole" "cut_whole" (defArgs s_cut_whole) (defBody s_cut_whole) (defScope s_cut_whole) [] [] (He.fAd K ("cut_whole", none)) fd
  d_with_sign_of : ∃ fd, FunD K "with_sign_of" "with_sign_of" (defArgs s_with_sign_of) (defBody s_with_sign_of) (defScope s_with_sign_of) [] [] (He.fAd K ("with_sign_of", none)) fd
  d_truncated : ∃ fd, FunD K "truncated" "truncated" (defArgs s_truncated) (defBody s_truncated) (defScope s_truncated) [] [] (He.fAd K ("truncated", none)) fd
  d_floored : ∃ fd, FunD K "floored" "floored" (defArgs s_floored) (defBody s_floored) (defScope s_floored) [] [] (He.fAd K ("floored", none)) fd
  d_ceiled : ∃ fd, FunD K "ceiled" "ceiled" (defArgs s_ceiled) (defBody s_ceiled) (defScope s_ceiled) [] [] (He.fAd K ("ceiled", none)) fd
  d_nearest : ∃ fd, FunD K "nearest" "nearest" (defArgs s_nearest) (defBody s_nearest) (defScope s_nearest) [] [] (He.fAd K ("nearest", none)) fd
  d__law_well : ∃ fd, FunD K "_law_well" "_law_well" (defArgs s__law_well) (defBody s__law_well) (defScope s__law_well) [] [] (He.fAd K ("_law_well", none)) fd
  d__law_draw : ∃ fd, FunD K "_law_draw" "_law_draw" (defArgs s__law_draw) (defBody s__law_draw) (defScope s__law_draw) [] [] (He.fAd K ("_law_draw", none)) fd
  d__law_pick : ∃ fd, FunD K "_law_pick" "_law_pick" (defArgs s__law_pick) (defBody s__law_pick) (defScope s__law_pick) [] [] (He.fAd K ("_law_pick", none)) fd
  d__law_tens : ∃ fd, FunD K "_law_tens" "_law_tens" (defArgs s__law_tens) (defBody s__law_tens) (defScope s__law_tens) [] [] (He.fAd K ("_law_tens", none)) fd
  d__law_whole : ∃ fd, FunD K "_law_whole" "_law_whole" (defArgs s__law_whole) (defBody s__law_whole) (defScope s__law_whole) [] [] (He.fAd K ("_law_whole", none)) fd
  d__law_size : ∃ fd, FunD K "_law_size" "_law_size" (defArgs s__law_size) (defBody s__law_size) (defScope s__law_size) [] [] (He.fAd K ("_law_size", none)) fd
  d__law_common : ∃ fd, FunD K "_law_common" "_law_common" (defArgs s__law_common) (defBody s__law_common) (defScope s__law_common) [] [] (He.fAd K ("_law_common", none)) fd
  d__law_ratio_right : ∃ fd, FunD K "_law_ratio_right" "_law_ratio_right" (defArgs s__law_ratio_right) (defBody s__law_ratio_right) (defScope s__law_ratio_right) [] [] (He.fAd K ("_law_ratio_right", none)) fd
  d__law_integers_right : ∃ fd, FunD K "_law_integers_right" "_law_integers_right" (defArgs s__law_integers_right) (defBody s__law_integers_right) (defScope s__law_integers_right) [] [] (He.fAd K ("_law_integers_right", none)) fd
  d__law_stays : ∃ fd, FunD K "_law_stays" "_law_stays" (defArgs s__law_stays) (defBody s__law_stays) (defScope s__law_stays) [] [] (He.fAd K ("_law_stays", none)) fd
  d__law_tiny_right : ∃ fd, FunD K "_law_tiny_right" "_law_tiny_right" (defArgs s__law_tiny_right) (defBody s__law_tiny_right) (defScope s__law_tiny_right) [] [] (He.fAd K ("_law_tiny_right", none)) fd
  d__law_zero_right : ∃ fd, FunD K "_law_zero_right" "_law_zero_right" (defArgs s__law_zero_right) (defBody s__law_zero_right) (defScope s__law_zero_right) [] [] (He.fAd K ("_law_zero_right", none)) fd
  d__law_number : ∃ fd, FunD K "_law_number" "_law_number" (defArgs s__law_number) (defBody s__law_number) (defScope s__law_number) [] [] (He.fAd K ("_law_number", none)) fd
  d__law_long_right : ∃ fd, FunD K "_law_long_right" "_law_long_right" (defArgs s__law_long_right) (defBody s__law_long_right) (defScope s__law_long_right) [] [] (He.fAd K ("_law_long_right", none)) fd
  d_law : ∃ fd, FunD K "law" "law" (defArgs s_law) (defBody s_law) (defScope s_law) [] [] (He.fAd K ("law", none)) fd
set_option hygiene false in
local macro_rules | `(tactic| walk_at "rd") => `(tactic| simp only [tSeq, tNext, tDrop, tRet, tRetN, tIfS, tAsg, tPar, tAug, gName, gNil, gCons, gTup, gSub, tVar, tC, tOp, tUn, tCB, tCons, tNil, nTup, nLst, nMake, tTest, tB, tAnd, tOr, tNot, tAndV, tOrV, tNotV, tIf, tCall, tMeth, tFld, sFld, tChain, tNever, fl_n, fl_b, fl_i, fl_s, fv_n, fv_b, fv_i, fv_s, ii_n, ii_b, ii_i, ii_s, ib_n, ib_b, ib_i, ib_s, is_n, is_b, is_i, is_s, im_n, im_b, im_i, im_s, ti_i, ti_t, ti_f, List.all_cons, List.all_nil, Bool.and_self, Bool.and_true, sc_ii, sc_ss, sc_is, sc_si, sc_bb, sp_is_integer, nIn, nNi, nInT, nNiT, rIsF, rIsTup, rAbs, rMaxI, rMinI, rInt1, rLenT, rLenL, rInT, rNiT, rIxTu, rIxLi, rI, rI0, rU, rEq, rNe, tMakeK, List.drop_zero, List.drop_succ_cons, List.take_succ_cons, List.take_zero, List.drop_nil, List.take_nil, nForL, nForR, nLcR, rSlN, rCatN, rSetL, tSl, tPart, tNoPart, CMul, CPow, nDcT, dcStep, dcBody, rSortD, rTupL, rListL, nLcL, nLcT, lcStep, lcBody, wipe, List.foldl_cons, List.foldl_nil, tYes, ipI, L2.start, cxOf, Cx.nox, Cx.wish, List.map_cons, List.map_nil, List.append_nil, List.cons_append, List.nil_append, List.length_cons, List.length_nil, List.replicate_succ, List.replicate_zero, List.getElem?_cons_zero, List.getElem?_cons_succ, List.set_cons_zero, List.set_cons_succ, Nat.add_one_sub_one, Nat.sub_self, Nat.reduceAdd, Nat.reduceSub, Nat.zero_add, Nat.sub_zero,
  Option.some.injEq, exists_eq_left', exists_eq_left, exists_and_left, V.int.injEq, V.bl.injEq, V.str.injEq, V.ref.injEq, List.cons.injEq, and_true, true_and, Bool.false_eq_true, if_true, if_false, ite_true, ite_false, Bool.not_true, Bool.not_false, reduceIte, decide_true, decide_false])
set_option hygiene false in
local macro_rules | `(tactic| walk_at "ff") => `(tactic| first | simp only [hp, hq, T.cl_Decimal, T.no_Decimal_sign, T.no_Decimal_coefficient, T.no_Decimal_exponent, lk_sign, lk_coef, lk_exp, T.cl_Context, T.no_Context_rules, lk_rules, lk_told, T.cl_Rules, T.no_Rules_prec, T.no_Rules_rounding, T.no_Rules_emin, T.no_Rules_emax, T.no_Rules_clamp, lk_prec, lk_rnd, lk_emin, lk_emax, lk_clamp, lk_etiny, lk_etop, at1_0, at2_0, at2_1, at3_0, at3_1, at3_2, at5_0, at5_1, at5_2, at5_3, at5_4, Option.some.injEq, HO.ins.injEq, HO.tup.injEq, HO.lst.injEq, fl_n, fl_b, fl_i, fl_s, fv_n, fv_b, fv_i, fv_s, ii_n, ii_b, ii_i, ii_s, ib_n, ib_b, ib_i, ib_s, is_n, is_b, is_i, is_s, im_n, im_b, im_i, im_s, ti_i, ti_t, ti_f, List.all_cons, List.all_nil, Bool.and_self, Bool.and_true, sc_ii, sc_ss, sc_is, sc_si, sc_bb, V.int.injEq, V.bl.injEq, V.str.injEq, V.ref.injEq, List.cons.injEq, Bool.true_and, Bool.false_eq_true, Bool.not_true, Bool.not_false, reduceIte, and_assoc, exists_eq_left', exists_eq_left, exists_and_left, and_true, true_and, decide_true, decide_false] | simp only [hp, T.cl_Decimal, T.no_Decimal_sign, T.no_Decimal_coefficient, T.no_Decimal_exponent, lk_sign, lk_coef, lk_exp, T.cl_Context, T.no_Context_rules, lk_rules, lk_told, T.cl_Rules, T.no_Rules_prec, T.no_Rules_rounding, T.no_Rules_emin, T.no_Rules_emax, T.no_Rules_clamp, lk_prec, lk_rnd, lk_emin, lk_emax, lk_clamp, lk_etiny, lk_etop, at1_0, at2_0, at2_1, at3_0, at3_1, at3_2, at5_0, at5_1, at5_2, at5_3, at5_4, Option.some.injEq, HO.ins.injEq, HO.tup.injEq, HO.lst.injEq, fl_n, fl_b, fl_i, fl_s, fv_n, fv_b, fv_i, fv_s, ii_n, ii_b, ii_i, ii_s, ib_n, ib_b, ib_i, ib_s, is_n, is_b, is_i, is_s, im_n, im_b, im_i, im_s, ti_i, ti_t, ti_f, List.all_cons, List.all_nil, Bool.and_self, Bool.and_true, sc_ii, sc_ss, sc_is, sc_si, sc_bb, V.int.injEq, V.bl.injEq, V.str.injEq, V.ref.injEq, List.cons.injEq, Bool.true_and, Bool.false_eq_true, Bool.not_true, Bool.not_false, reduceIte, and_assoc, exists_eq_left', exists_eq_left, exists_and_left, and_true, true_and, decide_true, decide_false] | simp only [hq, T.cl_Decimal, T.no_Decimal_sign, T.no_Decimal_coefficient, T.no_Decimal_exponent, lk_sign, lk_coef, lk_exp, T.cl_Context, T.no_Context_rules, lk_rules, lk_told, T.cl_Rules, T.no_Rules_prec, T.no_Rules_rounding, T.no_Rules_emin, T.no_Rules_emax, T.no_Rules_clamp, lk_prec, lk_rnd, lk_emin, lk_emax, lk_clamp, lk_etiny, lk_etop, at1_0, at2_0, at2_1, at3_0, at3_1, at3_2, at5_0, at5_1, at5_2, at5_3, at5_4, Option.some.injEq, HO.ins.injEq, HO.tup.injEq, HO.lst.injEq, fl_n, fl_b, fl_i, fl_s, fv_n, fv_b, fv_i, fv_s, ii_n, ii_b, ii_i, ii_s, ib_n, ib_b, ib_i, ib_s, is_n, is_b, is_i, is_s, im_n, im_b, im_i, im_s, ti_i, ti_t, ti_f, List.all_cons, List.all_nil, Bool.and_self, Bool.and_true, sc_ii, sc_ss, sc_is, sc_si, sc_bb, V.int.injEq, V.bl.injEq, V.str.injEq, V.ref.injEq, List.cons.injEq, Bool.true_and, Bool.false_eq_true, Bool.not_true, Bool.not_false, reduceIte, and_assoc, exists_eq_left', exists_eq_left, exists_and_left, and_true, true_and, decide_true, decide_false] | simp only [T.cl_Decimal, T.no_Decimal_sign, T.no_Decimal_coefficient, T.no_Decimal_exponent, lk_sign, lk_coef, lk_exp, T.cl_Context, T.no_Context_rules, lk_rules, lk_told, T.cl_Rules, T.no_Rules_prec, T.no_Rules_rounding, T.no_Rules_emin, T.no_Rules_emax, T.no_Rules_clamp, lk_prec, lk_rnd, lk_emin, lk_emax, lk_clamp, lk_etiny, lk_etop, at1_0, at2_0, at2_1, at3_0, at3_1, at3_2, at5_0, at5_1, at5_2, at5_3, at5_4, Option.some.injEq, HO.ins.injEq, HO.tup.injEq, HO.lst.injEq, fl_n, fl_b, fl_i, fl_s, fv_n, fv_b, fv_i, fv_s, ii_n, ii_b, ii_i, ii_s, ib_n, ib_b, ib_i, ib_s, is_n, is_b, is_i, is_s, im_n, im_b, im_i, im_s, ti_i, ti_t, ti_f, List.all_cons, List.all_nil, Bool.and_self, Bool.and_true, sc_ii, sc_ss, sc_is, sc_si, sc_bb, V.int.injEq, V.bl.injEq, V.str.injEq, V.ref.injEq, List.cons.injEq, Bool.true_and, Bool.false_eq_true, Bool.not_true, Bool.not_false, reduceIte, and_assoc, exists_eq_left', exists_eq_left, exists_and_left, and_true, true_and, decide_true, decide_false])
set_option hygiene false in
local macro_rules | `(tactic| walk_at "wl") => `(tactic| simp only [hw, upd_same, at3_0, at3_1, at3_2, ix3_0, ix3_1, ix3_2, List.length_cons, List.length_nil, Nat.zero_add, Nat.reduceAdd, List.set_cons_zero, List.set_cons_succ, HO.lst.injEq, Option.some.injEq, im_i, ti_i, V.int.injEq, and_assoc, exists_eq_left', exists_eq_left, exists_and_left, and_true, true_and])
set_option hygiene false in
local macro_rules | `(tactic| walk_at "q") => `(tactic| simp (config := { maxSteps := 2000000 }) only [g_tens, g_count_digits, g_goes_up, g_rounded_parts, g_overflow, g_finish_zero, g_finish_cut, g_finish_parts, g_etiny, g_etop, g_infinity, g_plain_nan, gQ, g_is_integer, g_is_exponent, g_kept_digits, g_finish, g_nan_of, g_with_sign_sums, g_un, g_signal_of, g_check_between, optT_none, optT_some, dCFld, dCMeth, dInG, dNiG, dInGT, dNiGT, fSortD, fIsLT, fAll, dDcT, dDcL, vD, ex_n', ex_F', ex_N', g_with_one, g_outcome_of, g_is_operation, g_told, g_names_of, g_draw, g_one, g_well, dKw, fCtx, g_law_ten, g_law_parts, g_law_ways, g_law_rules, g_law_context, g_law_digits, g_law_number, dSl, dNoP, dPart, fSlL, fSlR, fSlS, fRepS, fIntS, g_law_is_near, g_law_is_over, g_law_most, g_law_is_cut, dCutS, fRepB, dCSet, dLcK, fInDct, fListD, g_clear_flags, g_flags, g_noted, g_settled, g_meth1, g_meth2, g_meth3, g_law, ite01_or, ite01_dec, g_law_wide_rules, g_law_far_number, g_invalid, g_sign_of_both, g_exact_product, g_bin, optDc_none, optDc_some, g_with_two, g_first_half, g_second_half, dSlK, fSlT, g_law_coefficient, g_law_pair, g_adjusted, g_worth, g_sum_parts, g_added, g_tri, g_law_far_pair, eUnl, g_law_sum, g_law_made, g_law_turned, g_law_three, gOr, g_names_ofL, dCTrp, g_set_traps, g_law_pair2, g_law_whole_right, dApp, eSub, g_law_madeX, g_law_special, g_law_any, g_law_quiet, g_law_is_due, g_law_product, g_law_fma_right, optQ_none, optQ_some, optX_none, optX_some, dLcRM, dLstW, fCatLM, dLcS, g_wellF, g_nan_ofT, g_law_tens, g_law_numberF, g_law_frame, g_law_near, g_law_ground, g_unF, g_law_raised, g_law_over, g_law_finished, g_law_nan, optN_none, optN_some, g_law_due59, g_law_things59, dDisp, dPairs, dGet2, fIxD, dSeq, dNext, dCont, dBreak, dNever, dDrop, dRet, dRetN, dIfS, dAsg, dPar, dPar3, dAug, eName, eNil, eCons, eTup, dVar, dC, dOp, dUn, dCl, dTest, dAnd, dOr, dNot, dAndV, dOrV, dNotV, dIf, dChain, dNil, dCons, dTup, dLst, dLstM, dFld, dMeth, dForL, dForT, dForR, dForR2, dLcL, dLcT, dLcR, dYes, dFreeze, fI, fI0, fB, fNeg, fEq, fNe, fEqD, fNeD, fIsN, fNotN, fIn, fNi, fIxT, fIxL, fIxR, fIxM, fCatS, fCatL, fCatT, fRepL, fAbs, fMax, fMin, fInt, fStr, fLenS, fLenT, fLenL, fLenR, fListT, fListL, fTupL, fDivmod, fIs, fIsDec, fIsTup, fDec, fRul, isDecD, isRulD, exOf_int, exOf_d, fltD_non, fltD_bl, fltD_int, fltD_str, fltD_tup, fltD_lst, fltD_dec, fltD_rul, fltD_ref, isIntD_non, isIntD_bl, isIntD_int, isIntD_str, isIntD_tup, isIntD_lst, isIntD_dec, isIntD_rul, isIntD_ref, isNumD_non, isNumD_bl, isNumD_int, isNumD_str, isNumD_tup, isNumD_lst, isNumD_dec, isNumD_rul, isNumD_ref, isBlD_non, isBlD_bl, isBlD_int, isBlD_str, isBlD_tup, isBlD_lst, isBlD_dec, isBlD_rul, isBlD_ref, isStrD_non, isStrD_bl, isStrD_int, isStrD_str, isStrD_tup, isStrD_lst, isStrD_dec, isStrD_rul, isStrD_ref, isNon_non, isNon_bl, isNon_int, isNon_str, isNon_tup, isNon_lst, isNon_dec, isNon_rul, isNon_ref, numD_int, numD_bl, gSign_dec, gCoef_dec, gExp_dec, gPrec_rul, gRnd_rul, gEmin_rul, gEmax_rul, gClamp_rul, sc2_non_non, seq_non_non, eqF_non_non, sc2_non_bl, seq_non_bl, eqF_non_bl, sc2_non_int, seq_non_int, eqF_non_int, sc2_non_str, seq_non_str, eqF_non_str, sc2_bl_non, seq_bl_non, eqF_bl_non, sc2_bl_bl, seq_bl_bl, eqF_bl_bl, eqF_bl_int, sc2_bl_str, seq_bl_str, eqF_bl_str, sc2_int_non, seq_int_non, eqF_int_non, eqF_int_bl, sc2_int_int, seq_int_int, eqF_int_int, sc2_int_str, seq_int_str, eqF_int_str, sc2_str_non, seq_str_non, eqF_str_non, sc2_str_bl, seq_str_bl, eqF_str_bl, sc2_str_int, seq_str_int, eqF_str_int, sc2_str_str, seq_str_str, eqF_str_str, inD_nil, inD_cons, exd_fin, exd_inf, exd_qn, exd_sn, isFin_fin, isFin_inf, isFin_qn, isFin_sn, isInf_fin, isInf_inf, isInf_qn, isInf_sn, isNan_fin, isNan_inf, isNan_qn, isNan_sn, isSn_fin, isSn_inf, isSn_qn, isSn_sn, flt_ex, int_ex, sc_ex, ex_F, ex_n, ex_N, dstart, List.map_cons, List.map_nil, List.append_nil, List.cons_append, List.nil_append, List.length_cons, List.length_nil, List.replicate_succ, List.replicate_zero, List.getElem?_cons_zero, List.getElem?_cons_succ, List.set_cons_zero, List.set_cons_succ, List.all_cons, List.all_nil, Nat.add_one_sub_one, Nat.sub_self, Nat.reduceAdd, Nat.reduceSub, Nat.zero_add, Nat.sub_zero, at1_0', at2_0', at2_1', at3_0', at3_1', at3_2', at5_0', at5_1', at5_2', at5_3', at5_4', updO_same, updO_updO,
  Option.some.injEq, exists_eq_left', exists_eq_left, exists_eq, exists_eq', exists_and_left, exists_and_right, D.int.injEq, D.bl.injEq, D.str.injEq, D.ref.injEq, D.tup.injEq, D.lst.injEq, D.dec.injEq, D.rul.injEq, D.ty.injEq, MO.well.injEq, MO.lst.injEq, MO.ctx.injEq, List.cons.injEq, reduceCtorEq, Nat.reduceLeDiff, and_assoc, and_true, true_and, false_and, and_false, or_false, false_or, Bool.or_false, Bool.false_or, Bool.and_self, Bool.and_true, Bool.true_and, Bool.false_eq_true, if_true, if_false, ite_true, ite_false, Bool.not_true, Bool.not_false, reduceIte, decide_true, decide_false])
set_option hygiene false in
local macro_rules | `(tactic| walk_at "br") => `(tactic| repeat (first | refine ite_yes (by decide +kernel) ?_ | refine ite_no (by decide +kernel) ?_))
set_option hygiene false in
local macro_rules | `(tactic| walk_at "yes") => `(tactic| first | exact k | exact (congrArg (fun b => Q (D.bl b) O) (show _ = true by decide +kernel)).mpr k)

section
variable {P : Program} {w : World} {K : PySem.W.Frag} {mg : Str → Option Value} {base : Heap}
theorem ok_is_integer (T : Tx K mg) : OkP P w K mg base 1 ("is_integer", none) ["thing"] g_is_integer := by
  obtain ⟨fd, F⟩ := T.d_is_integer
  refine ⟨fd, okP (k := 0) F sc_is_integer (fun cdv A outer s H E hr => PSs.nox ((qss_one (qs_ret (q_and (q_cb isi_int c_isInt (by rfl) T.n_isinstance (by decide +kernel) (qa_cons (q_var (pv 0)) (qa_cons (q_ty (pe_bltn (v := .ty "int") (by rfl) T.n_int (by decide +kernel) rfl)) qa_nil))) (pe_one (q_not (q_cb isi_bool c_isBool (by rfl) T.n_isinstance (by decide +kernel) (qa_cons (q_var (pv 0)) (qa_cons (q_ty (pe_bltn (v := .ty "bool") (by rfl) T.n_bool (by decide +kernel) rfl)) qa_nil)))))))))) (fun ds O Q h => ?_) (fun ds O Q h => ?_), F.bindsN (fun _ _ _ _ _ _ us hl => match us, hl with | [_], _ => rfl), F.kp⟩
  · obtain ⟨d, rfl, _⟩ := h
    rfl
  · obtain ⟨d, rfl, hf, k⟩ := h
    cases d <;> first | cases hf | skip
    all_goals (walk_at "q"; exact k)
theorem ok_is_exponent (T : Tx K mg) : OkP P w K mg base 2 ("is_exponent", none) ["thing"] g_is_exponent := by
  obtain ⟨fd_is_integer, G_is_integer, b_is_integer, k_is_integer⟩ := ok_is_integer (P := P) (w := w) (base := base) T
  obtain ⟨fd, F⟩ := T.d_is_exponent
  refine ⟨fd, okP (k := 1) F sc_is_exponent (fun cdv A outer s H E hr => PSs.nox ((qss_one (qs_ret (q_or (q_call G_is_integer (hr.mono (by decide)) (by rfl) T.g_is_integer k_is_integer b_is_integer (qa_cons (q_var (pv 0)) qa_nil)) (pe_one (q_and (q_cb isi_str c_isStr (by rfl) T.n_isinstance (by decide +kernel) (qa_cons (q_var (pv 0)) (qa_cons (q_ty (pe_bltn (v := .ty "str") (by rfl) T.n_str (by decide +kernel) rfl)) qa_nil))) (pe_one (q_cmp op_in_seq r_in (q_var (pv 0)) (q_tup (qa_cons (q_str (pe_gS (by rfl) T.c_INFINITY)) (qa_cons (q_str (pe_gS (by rfl) T.c_QUIET)) (qa_cons (q_str (pe_gS (by rfl) T.c_SIGNALING)) qa_nil)))) rfl))))))))) (fun ds O Q h => ?_) (fun ds O Q h => ?_), F.bindsN (fun _ _ _ _ _ _ us hl => match us, hl with | [_], _ => rfl), F.kp⟩
  · obtain ⟨d, rfl, _⟩ := h
    rfl
  · obtain ⟨d, rfl, hf, k⟩ := h
    cases d with
    | non => walk_at "q"; exact k
    | bl b => walk_at "q"; exact k
    | int i => walk_at "q"; exact k
    | str z =>
      walk_at "q"
      have e : expOkD (.str z) = (decide (z = "F") || (decide (z = "n") || decide (z = "N"))) := Bool.or_assoc _ _ _
      rw [e] at k
      exact k
    | _ => cases hf
theorem ok_Decimal___init__ (T : Tx K mg) : Okd P w K mg base 3 ("Decimal", some "__init__") ["self", "sign", "coefficient", "exponent"] (spIn (He.ga K "Decimal") decOk) := by
  obtain ⟨fd_is_integer, G_is_integer, b_is_integer, k_is_integer⟩ := ok_is_integer (P := P) (w := w) (base := base) T
  obtain ⟨fd_is_exponent, G_is_exponent, b_is_exponent, k_is_exponent⟩ := ok_is_exponent (P := P) (w := w) (base := base) T
  obtain ⟨fd, F⟩ := T.d_Decimal___init__
  refine ⟨fd, F.ok sc_Decimal___init__ (fun vs H Q E h => ?_) (fun cdv A outer s H vs Q E hr h => ⟨_, PSs.nox ((pss_cons (ps_if (PW.pt (pw_or (pt_not (pt_val (pe_call G_is_integer (hr.mono (by decide)) (by rfl) T.g_is_integer k_is_integer b_is_integer .nil pass0 (pa_cons (pv 1) pa_nil)))) (pw_or1 (pt_cmpR ni_t (pv 1) (n_tup (pa_cons pe_int (pa_cons pe_int pa_nil))) rfl))))
 (pss_one ps_never)
 pss_nil)
 (pss_cons (ps_if (PW.pt (pw_or (pt_not (pt_val (pe_call G_is_integer (hr.mono (by decide)) (by rfl) T.g_is_integer k_is_integer b_is_integer .nil pass0 (pa_cons (pv 2) pa_nil)))) (pw_or1 (pt_cmpR op_lt (pv 2) pe_int (nomark _)))))
 (pss_one ps_never)
 pss_nil)
 (pss_cons (ps_if (pt_not (pt_val (pe_call G_is_exponent (hr.mono (by decide)) (by rfl) T.g_is_exponent k_is_exponent b_is_exponent .nil pass0 (pa_cons (pv 3) pa_nil))))
 (pss_one ps_never)
 pss_nil)
 (pss_cons (ps_if (PW.pt (pw_and (pt_cmpR op_eq (pv 3) (pe_gS (by rfl) T.c_INFINITY) (nomark _)) (pw_and1 (pt_cmpR op_ne (pv 2) pe_int (nomark _)))))
 (pss_one ps_never)
 pss_nil)
 (pss_cons (ps_fld (pv 0) (pv 1) rfl)
 (pss_cons (ps_fld (pv 0) (pv 2) rfl)
 (pss_one (ps_fld (pv 0) (pv 3) rfl))))))))), ?_⟩), F.bindsN (fun _ _ _ _ _ _ us hl => match us, hl with | [_, _, _, _], _ => rfl), F.kp⟩
  · obtain ⟨H0, p, dx, args, fs, rfl, _, _, _, ⟨s, c, e, rfl, _⟩, _⟩ := h
    rfl
  · obtain ⟨H0, p, dx, args, fs, rfl, s0, p0, hp, ⟨sg, c, e, rfl, g, rfl⟩, k⟩ := h
    have sce := ScE.of g.ex
    have hin : inV (.int sg) [.int 0, .int 1] = true := by
      rcases g.sg with h | h <;> (rw [h]; rfl)
    walk_at "rd"
    refine spP_of (v := .bl true) (d := .bl true) (ds := [.int sg]) (fun F => .cons (.int _) .nil) (fun F u r => rep_bl r) (fun O P h => ⟨_, rfl, rfl, h⟩) fun Ha ea => ⟨true, rfl, iteF ?_⟩
    refine ⟨by decide, fun q H1 e1 n1 q1 => ⟨q, rfl, _, q1, rfl, ?_⟩⟩
    rw [hin]
    refine iteF ?_
    refine spP_of (v := .bl true) (d := .bl true) (ds := [.int c]) (fun F => .cons (.int _) .nil) (fun F u r => rep_bl r) (fun O P h => ⟨_, rfl, rfl, h⟩) fun Hb eb => ⟨true, rfl, iteF ?_⟩
    refine iteD (fun h => absurd g.co (by omega)) (fun _ => ?_)
    have hex : ∃ d : D, (∀ F, Rep K F e d) ∧ fltD d = true ∧ expOkD d = true := by
      rcases sce with ⟨n, rfl⟩ | ⟨z, rfl⟩
      · exact ⟨.int n, fun _ => .int n, rfl, rfl⟩
      · exact ⟨.str z, fun _ => .str z, rfl, g.ex⟩
    obtain ⟨de, r1, r2, r3⟩ := hex
    refine spP_of (v := .bl true) (d := .bl true) (ds := [de]) (fun F => .cons (r1 F) .nil) (fun F u r => rep_bl r) (fun O P h => ⟨_, rfl, r2, by rw [r3]; exact h⟩) fun H2 e2 => ⟨true, rfl, iteF ⟨sce.scal _, ?_⟩⟩
    have hp2 : H2 p = some (.ins (He.ga K "Decimal") dx []) := e2 _ _ (eb _ _ (e1 _ _ (ea _ _ hp)))
    have fin : Q .non (upd (upd (upd H2 p (.ins (He.ga K "Decimal") dx (putF "sign" (.int sg) []))) p (.ins (He.ga K "Decimal") dx (putF "coefficient" (.int c) (putF "sign" (.int sg) [])))) p (.ins (He.ga K "Decimal") dx (putF "exponent" e (putF "coefficient" (.int c) (putF "sign" (.int sg) []))))) := by
      refine k _ (fun b o hb => ?_) upd_same
      have nb : b ≠ p := fun q => by
        rw [q, p0] at hb
        cases hb
      rw [upd_ne nb, upd_ne nb, upd_ne nb]
      exact e2 _ _ (eb _ _ (e1 _ _ (ea _ _ (s0 _ _ hb))))
    refine iteD (fun h => ?_) (fun _ => ?_)
    · rw [g.inf h]
      rw [g.inf h] at fin
      refine iteND (fun h => absurd rfl h) fun _ => ?_
      exact ⟨_, dx, _, hp2, T.cl_Decimal, T.no_Decimal_sign, by decide, _, dx, _, upd_same, T.cl_Decimal, T.no_Decimal_coefficient, (show 1 < 1000 by decide), _, dx, _, upd_same, T.cl_Decimal, T.no_Decimal_exponent, (show 2 < 1000 by decide), fin⟩
    · exact ⟨_, dx, _, hp2, T.cl_Decimal, T.no_Decimal_sign, by decide, _, dx, _, upd_same, T.cl_Decimal, T.no_Decimal_coefficient, (show 1 < 1000 by decide), _, dx, _, upd_same, T.cl_Decimal, T.no_Decimal_exponent, (show 2 < 1000 by decide), fin⟩
theorem ok_is_finite (T : Tx K mg) : OkP P w K mg base 2 ("is_finite", none) ["a"] (gQ fun a => a.e.isFin) := by
  obtain ⟨fd_is_integer, G_is_integer, b_is_integer, k_is_integer⟩ := ok_is_integer (P := P) (w := w) (base := base) T
  obtain ⟨fd, F⟩ := T.d_is_finite
  refine ⟨fd, okP (k := 1) F sc_is_finite (fun cdv A outer s H E hr => PSs.nox ((qss_one (qs_ret (q_call G_is_integer (hr.mono (by decide)) (by rfl) T.g_is_integer k_is_integer b_is_integer (qa_cons (q_fld f_exp T.cl_Decimal T.no_Decimal_exponent (q_var (pv 0))) qa_nil)))))) (fun ds O Q h => ?_) (fun ds O Q h => ?_), F.bindsN (fun _ _ _ _ _ _ us hl => match us, hl with | [_], _ => rfl), F.kp⟩
  · obtain ⟨a, rfl, _⟩ := h
    rfl
  · obtain ⟨a, rfl, k⟩ := h
    walk_at "q"
    exact k
theorem ok_is_infinite (T : Tx K mg) : OkP P w K mg base 1 ("is_infinite", none) ["a"] (gQ fun a => a.e.isInf) := by
  obtain ⟨fd, F⟩ := T.d_is_infinite
  refine ⟨fd, okP (k := 0) F sc_is_infinite (fun cdv A outer s H E hr => PSs.nox ((qss_one (qs_ret (q_cmp op_eq r_eq (q_fld f_exp T.cl_Decimal T.no_Decimal_exponent (q_var (pv 0))) (q_str (pe_gS (by rfl) T.c_INFINITY)) (nomark _)))))) (fun ds O Q h => ?_) (fun ds O Q h => ?_), F.bindsN (fun _ _ _ _ _ _ us hl => match us, hl with | [_], _ => rfl), F.kp⟩
  · obtain ⟨a, rfl, _⟩ := h
    rfl
  · obtain ⟨a, rfl, k⟩ := h
    walk_at "q"
    exact k
theorem ok_is_nan (T : Tx K mg) : OkP P w K mg base 1 ("is_nan", none) ["a"] (gQ fun a => a.e.isNan) := by
  obtain ⟨fd, F⟩ := T.d_is_nan
  refine ⟨fd, okP (k := 0) F sc_is_nan (fun cdv A outer s H E hr => PSs.nox ((qss_one (qs_ret (q_or (q_cmp op_eq r_eq (q_fld f_exp T.cl_Decimal T.no_Decimal_exponent (q_var (pv 0))) (q_str (pe_gS (by rfl) T.c_QUIET)) (nomark _)) (pe_one (q_cmp op_eq r_eq (q_fld f_exp T.cl_Decimal T.no_Decimal_exponent (q_var (pv 0))) (q_str (pe_gS (by rfl) T.c_SIGNALING)) (nomark _)))))))) (fun ds O Q h => ?_) (fun ds O Q h => ?_), F.bindsN (fun _ _ _ _ _ _ us hl => match us, hl with | [_], _ => rfl), F.kp⟩
  · obtain ⟨a, rfl, _⟩ := h
    rfl
  · obtain ⟨⟨s, c, e⟩, rfl, k⟩ := h
    walk_at "q"
    cases e <;> exact k
end

section
variable {P : Program} {w : World} {K : PySem.W.Frag} {mg : Str → Option Value} {base : Heap}
theorem ok_tens (T : Tx K mg) : OkP P w K mg base 1 ("tens", none) ["many"] g_tens := by
  obtain ⟨fd, F⟩ := T.d_tens
  refine ⟨fd, okP (k := 0) F sc_tens (fun cdv A outer s H E hr => PSs.nox ((qss_cons (qs_asg (q_tup (qa_cons (q_int pe_int) (qa_cons (q_int pe_int) qa_nil))) (qg_tup (n := 2) (by rfl) (qgs_cons (qg_name (pg_name (i := 1) sc_tens.nd rfl (Or.inl rfl))) (qgs_cons (qg_name (pg_name (i := 2) sc_tens.nd rfl (Or.inl rfl))) qgs_nil))))
 (qss_cons (qs_while (ps_while PassesOwn.never (qt_cmp op_gt r_B (q_var (pv 0)) (q_int pe_int) (nomark _))
 (qss_cons (qs_if (qt_cmp op_eq r_eq (q_op op_mod r_I (q_var (pv 0)) (q_int pe_int)) (q_int pe_int) (nomark _))
 (qss_one (qs_set (ps_set (i := 1) sc_tens.nd rfl (Or.inl rfl) (q_op op_mulW r_I (q_var (pv 1)) (q_var (pv 2))))))
 qss_nil)
 (qss_one (qs_par (ps_par (i := 2) (j := 0) (by rfl) sc_tens.nd rfl rfl (by decide) rfl rfl (qa_cons (q_op op_mulW r_I (q_var (pv 2)) (q_var (pv 2))) (qa_cons (q_op op_fdivW r_I (q_var (pv 0)) (q_int pe_int)) qa_nil)) (by rfl)))))))
 (qss_one (qs_ret (q_var (pv 1)))))))) (fun ds O Q h => ?_) (fun ds O Q h => ?_), F.bindsN (fun _ _ _ _ _ _ us hl => match us, hl with | [_], _ => rfl), F.kp⟩
  · obtain ⟨i, rfl, _⟩ := h
    rfl
  · obtain ⟨i, rfl, h0, hn, k⟩ := h
    obtain ⟨n, rfl⟩ : ∃ n : Nat, i = (n : Int) := ⟨i.toNat, by omega⟩
    rw [Int.toNat_natCast] at k
    walk_at "q"
    refine ⟨fun m ρ O' => O' = O ∧ ∃ (f b : Nat), ρ = [some (.int (m : Int)), some (.int ((10 : Int) ^ f)), some (.int ((10 : Int) ^ b))] ∧ f + b * m = n ∧ 1 ≤ b ∧ b ≤ 2 * n + 1 ∧ (0 < m → b ≤ n), ⟨n, rfl, 0, 1, rfl, by omega, by omega, by omega, by omega⟩, ?_⟩
    rintro m ρ O' ⟨rfl, f, b, rfl, e, hb, hb2, hm⟩
    walk_at "q"
    refine iteD (fun hpos => ?_) (fun hz => ?_)
    · have hmp : 0 < m := by omega
      have hbn := hm hmp
      have hbm : b * 1 ≤ b * m := Nat.mul_le_mul_left b hmp
      have hfn : f + b ≤ n := by omega
      have two : (b + b) * (m / 2) + b * (m % 2) = b * m := by
        have := Nat.div_add_mod m 2
        calc (b + b) * (m / 2) + b * (m % 2) = b * (2 * (m / 2) + m % 2) := by rw [Nat.mul_add, ← Nat.mul_assoc, Nat.mul_two]
          _ = b * m := by rw [this]
      have last : 0 < m / 2 → b + b ≤ n := fun h => by
        have : (b + b) * 1 ≤ (b + b) * (m / 2) := Nat.mul_le_mul_left _ h
        omega
      have hdiv : ((m : Int) / 2) = ((m / 2 : Nat) : Int) := by omega
      have hpow : (10 : Int) ^ b * 10 ^ b = 10 ^ (b + b) := (Int.pow_add ..).symm
      refine ⟨by decide, iteD (fun hodd => ?_) (fun hev => ?_)⟩
      · refine ⟨mulW10 (by omega), mulW10 (by omega), ⟨by decide, by decide⟩, m / 2, by omega, hdiv, f + b, (Int.pow_add ..).symm, b + b, hpow, ?_, by omega, by omega, last⟩
        rw [show m % 2 = 1 by omega] at two
        omega
      · refine ⟨mulW10 (by omega), ⟨by decide, by decide⟩, m / 2, by omega, hdiv, f, rfl, b + b, hpow, ?_, by omega, by omega, last⟩
        rw [show m % 2 = 0 by omega] at two
        omega
    · have hm0 : m = 0 := by omega
      subst hm0
      have ef : f = n := by omega
      rw [← ef] at k
      exact k
theorem ok_count_digits (T : Tx K mg) : OkP P w K mg base 1 ("count_digits", none) ["number"] g_count_digits := by
  obtain ⟨fd, F⟩ := T.d_count_digits
  refine ⟨fd, okP (k := 0) F sc_count_digits (fun cdv A outer s H E hr => PSs.nox ((qss_cons (qs_set (ps_set (i := 1) sc_count_digits.nd rfl (Or.inl rfl) (q_int pe_int)))
 (qss_cons (qs_while (ps_while PassesOwn.never (qt_cmp op_ge r_B (q_var (pv 0)) (q_int (pe_gI (by rfl) T.c_GREAT)) (nomark _))
 (qss_cons (qs_set (ps_set (i := 0) sc_count_digits.nd rfl (Or.inl rfl) (q_op op_fdivW r_I (q_var (pv 0)) (q_int (pe_gI (by rfl) T.c_GREAT)))))
 (qss_one (qs_aug (ps_aug (i := 1) sc_count_digits.nd rfl (Or.inl rfl) (q_int (pe_gI (by rfl) T.c_STEP)) ip_add))))))
 (qss_one (qs_ret (q_op op_add r_I0 (q_var (pv 1)) (q_cb call_len_str c_lenS (by rfl) T.n_len (by decide +kernel) (qa_cons (q_ct call_str_int c_str (by rfl) T.n_str (by decide +kernel) (qa_cons (q_var (pv 0)) qa_nil)) qa_nil))))))))) (fun ds O Q h => ?_) (fun ds O Q h => ?_), F.bindsN (fun _ _ _ _ _ _ us hl => match us, hl with | [_], _ => rfl), F.kp⟩
  · obtain ⟨n, rfl, _⟩ := h
    rfl
  · obtain ⟨c, rfl, hc, k⟩ := h
    obtain ⟨n, rfl⟩ : ∃ n : Nat, c = (n : Int) := ⟨c.toNat, by omega⟩
    rw [nd_nat] at k
    walk_at "q"
    have hg : (10000000000000000000000000000000000000000000000000000000000000000 : Int) = ((10 ^ 64 : Nat) : Int) := by decide
    refine ⟨fun m ρ O' => O' = O ∧ ∃ f : Nat, ρ = [some (.int (m : Int)), some (.int (f : Int))] ∧ f + ndg m = ndg n, ⟨n, rfl, 0, rfl, by omega⟩, ?_⟩
    rintro m ρ O' ⟨rfl, f, rfl, e⟩
    walk_at "q"
    rw [hg]
    refine iteD (fun hpos => ?_) (fun hz => ?_)
    · have hm : 10 ^ 64 ≤ m := by omega
      have hd := ndg_div64 hm
      have hlt : m / 10 ^ 64 < m := Nat.div_lt_self (by omega) (by decide)
      refine ⟨⟨by decide, by decide⟩, m / 10 ^ 64, hlt, (Int.natCast_ediv _ _).symm, f + 64, (Int.natCast_add _ _).symm, ?_⟩
      rw [← e, ← hd, Nat.add_comm (ndg _) 64, Nat.add_assoc]
    · have hm : m < 10 ^ 64 := by omega
      have h1 := log2_10 hm
      have h2 : ndg m ≤ 64 := ndg_le (by decide) hm
      refine ⟨by rw [Int.natAbs_natCast]; omega, ?_, ?_⟩
      · rw [len_str]
        exact Nat.le_trans h2 (by decide)
      · rw [len_str, ← Int.natCast_add, e]
        exact k
end

section
variable {P : Program} {w : World} {K : PySem.W.Frag} {mg : Str → Option Value} {base : Heap}
theorem ok_Decimal_adjusted (T : Tx K mg) : OkP P w K mg base 3 ("Decimal", some "adjusted") ["self"] g_adjusted := by
  obtain ⟨fd_is_finite, G_is_finite, b_is_finite, k_is_finite⟩ := ok_is_finite (P := P) (w := w) (base := base) T
  obtain ⟨fd_count_digits, G_count_digits, b_count_digits, k_count_digits⟩ := ok_count_digits (P := P) (w := w) (base := base) T
  obtain ⟨fd, F⟩ := T.d_Decimal_adjusted
  refine ⟨fd, okP (k := 2) F sc_Decimal_adjusted (fun cdv A outer s H E hr => PSs.nox ((qss_one (qs_ret (q_ifExp (qt_val (q_call G_is_finite (hr.mono (by decide)) (by rfl) T.g_is_finite k_is_finite b_is_finite (qa_cons (q_var (pv 0)) qa_nil))) (q_op op_sub r_I0 (q_op op_add r_I0 (q_fld f_exp T.cl_Decimal T.no_Decimal_exponent (q_var (pv 0))) (q_call G_count_digits (hr.mono (by decide)) (by rfl) T.g_count_digits k_count_digits b_count_digits (qa_cons (q_fld f_coef T.cl_Decimal T.no_Decimal_coefficient (q_var (pv 0))) qa_nil))) (q_int pe_int)) (q_int pe_int)))))) (fun ds O Q h => ?_) (fun ds O Q h => ?_), F.bindsN (fun _ _ _ _ _ _ us hl => match us, hl with | [_], _ => rfl), F.kp⟩
  · obtain ⟨a, n, rfl, _⟩ := h
    rfl
  · obtain ⟨⟨s, c, e⟩, n, rfl, he, hc, k⟩ := h
    subst he
    walk_at "q"
    exact ⟨hc, k⟩
end

set_option hygiene false in
local macro_rules | `(tactic| walk_at "q") => `(tactic| simp (config := { maxSteps := 2000000 }) only [g_tens, g_count_digits, g_goes_up, g_rounded_parts, g_overflow, g_finish_zero, g_finish_cut, g_finish_parts, g_etiny, g_etop, g_infinity, g_plain_nan, gQ, g_is_integer, g_is_exponent, g_kept_digits, g_finish, g_nan_of, g_with_sign_sums, g_un, g_signal_of, g_check_between, optT_none, optT_some, dCFld, dCMeth, dInG, dNiG, dInGT, dNiGT, fSortD, fIsLT, fAll, dDcT, dDcL, vD, ex_n', ex_F', ex_N', g_with_one, g_outcome_of, g_is_operation, g_told, g_names_of, g_draw, g_one, g_well, dKw, fCtx, g_law_ten, g_law_parts, g_law_ways, g_law_rules, g_law_context, g_law_digits, g_law_number, dSl, dNoP, dPart, fSlL, fSlR, fSlS, fRepS, fIntS, g_law_is_near, g_law_is_over, g_law_most, g_law_is_cut, dCutS, fRepB, dCSet, dLcK, fInDct, fListD, g_clear_flags, g_flags, g_noted, g_settled, g_meth1, g_meth2, g_meth3, g_law, ite01_or, ite01_dec, g_law_wide_rules, g_law_far_number, g_invalid, g_sign_of_both, g_exact_product, g_bin, optDc_none, optDc_some, g_with_two, g_first_half, g_second_half, dSlK, fSlT, g_law_coefficient, g_law_pair, g_adjusted, g_worth, g_sum_parts, g_added, g_tri, g_law_far_pair, eUnl, g_law_sum, g_law_made, g_law_turned, g_law_three, gOr, g_names_ofL, dCTrp, g_set_traps, g_law_pair2, g_law_whole_right, dApp, eSub, g_law_madeX, g_law_special, g_law_any, g_law_quiet, g_law_is_due, g_law_product, g_law_fma_right, optQ_none, optQ_some, optX_none, optX_some, dLcRM, dLstW, fCatLM, dLcS, g_wellF, g_nan_ofT, g_law_tens, g_law_numberF, g_law_frame, g_law_near, g_law_ground, g_unF, g_law_raised, g_law_over, g_law_finished, g_law_nan, optN_none, optN_some, g_law_due59, g_law_things59, dDisp, dPairs, dGet2, fIxD, g_side_of, g_size_order, g_order_of, g_as_decimal, dSeq, dNext, dCont, dBreak, dNever, dDrop, dRet, dRetN, dIfS, dAsg, dPar, dPar3, dAug, eName, eNil, eCons, eTup, dVar, dC, dOp, dUn, dCl, dTest, dAnd, dOr, dNot, dAndV, dOrV, dNotV, dIf, dChain, dNil, dCons, dTup, dLst, dLstM, dFld, dMeth, dForL, dForT, dForR, dForR2, dLcL, dLcT, dLcR, dYes, dFreeze, fI, fI0, fB, fNeg, fEq, fNe, fEqD, fNeD, fIsN, fNotN, fIn, fNi, fIxT, fIxL, fIxR, fIxM, fCatS, fCatL, fCatT, fRepL, fAbs, fMax, fMin, fInt, fStr, fLenS, fLenT, fLenL, fLenR, fListT, fListL, fTupL, fDivmod, fIs, fIsDec, fIsTup, fDec, fRul, isDecD, isRulD, exOf_int, exOf_d, fltD_non, fltD_bl, fltD_int, fltD_str, fltD_tup, fltD_lst, fltD_dec, fltD_rul, fltD_ref, isIntD_non, isIntD_bl, isIntD_int, isIntD_str, isIntD_tup, isIntD_lst, isIntD_dec, isIntD_rul, isIntD_ref, isNumD_non, isNumD_bl, isNumD_int, isNumD_str, isNumD_tup, isNumD_lst, isNumD_dec, isNumD_rul, isNumD_ref, isBlD_non, isBlD_bl, isBlD_int, isBlD_str, isBlD_tup, isBlD_lst, isBlD_dec, isBlD_rul, isBlD_ref, isStrD_non, isStrD_bl, isStrD_int, isStrD_str, isStrD_tup, isStrD_lst, isStrD_dec, isStrD_rul, isStrD_ref, isNon_non, isNon_bl, isNon_int, isNon_str, isNon_tup, isNon_lst, isNon_dec, isNon_rul, isNon_ref, numD_int, numD_bl, gSign_dec, gCoef_dec, gExp_dec, gPrec_rul, gRnd_rul, gEmin_rul, gEmax_rul, gClamp_rul, sc2_non_non, seq_non_non, eqF_non_non, sc2_non_bl, seq_non_bl, eqF_non_bl, sc2_non_int, seq_non_int, eqF_non_int, sc2_non_str, seq_non_str, eqF_non_str, sc2_bl_non, seq_bl_non, eqF_bl_non, sc2_bl_bl, seq_bl_bl, eqF_bl_bl, eqF_bl_int, sc2_bl_str, seq_bl_str, eqF_bl_str, sc2_int_non, seq_int_non, eqF_int_non, eqF_int_bl, sc2_int_int, seq_int_int, eqF_int_int, sc2_int_str, seq_int_str, eqF_int_str, sc2_str_non, seq_str_non, eqF_str_non, sc2_str_bl, seq_str_bl, eqF_str_bl, sc2_str_int, seq_str_int, eqF_str_int, sc2_str_str, seq_str_str, eqF_str_str, inD_nil, inD_cons, exd_fin, exd_inf, exd_qn, exd_sn, isFin_fin, isFin_inf, isFin_qn, isFin_sn, isInf_fin, isInf_inf, isInf_qn, isInf_sn, isNan_fin, isNan_inf, isNan_qn, isNan_sn, isSn_fin, isSn_inf, isSn_qn, isSn_sn, flt_ex, int_ex, sc_ex, ex_F, ex_n, ex_N, dstart, List.map_cons, List.map_nil, List.append_nil, List.cons_append, List.nil_append, List.length_cons, List.length_nil, List.replicate_succ, List.replicate_zero, List.getElem?_cons_zero, List.getElem?_cons_succ, List.set_cons_zero, List.set_cons_succ, List.all_cons, List.all_nil, Nat.add_one_sub_one, Nat.sub_self, Nat.reduceAdd, Nat.reduceSub, Nat.zero_add, Nat.sub_zero, at1_0', at2_0', at2_1', at3_0', at3_1', at3_2', at5_0', at5_1', at5_2', at5_3', at5_4', updO_same, updO_updO,
  Option.some.injEq, exists_eq_left', exists_eq_left, exists_eq, exists_eq', exists_and_left, exists_and_right, D.int.injEq, D.bl.injEq, D.str.injEq, D.ref.injEq, D.tup.injEq, D.lst.injEq, D.dec.injEq, D.rul.injEq, D.ty.injEq, MO.well.injEq, MO.lst.injEq, MO.ctx.injEq, List.cons.injEq, reduceCtorEq, Nat.reduceLeDiff, and_assoc, and_true, true_and, false_and, and_false, or_false, false_or, Bool.or_false, Bool.false_or, Bool.and_self, Bool.and_true, Bool.true_and, Bool.false_eq_true, if_true, if_false, ite_true, ite_false, Bool.not_true, Bool.not_false, reduceIte, decide_true, decide_false])
set_option hygiene false in
local macro_rules | `(tactic| walk_at "br") => `(tactic| repeat (first | refine ite_yes (by decide +kernel) ?_ | refine ite_no (by decide +kernel) ?_))
set_option hygiene false in
local macro_rules | `(tactic| walk_at "yes") => `(tactic| first | exact k | exact (congrArg (fun b => Q (D.bl b) O) (show _ = true by decide +kernel)).mpr k)

section
variable {P : Program} {w : World} {K : PySem.W.Frag} {mg : Str → Option Value} {base : Heap}
theorem ok_side_of (T : Tx K mg) : OkP P w K mg base 2 ("side_of", none) ["a"] g_side_of := by
  obtain ⟨fd_is_infinite, G_is_infinite, b_is_infinite, k_is_infinite⟩ := ok_is_infinite (P := P) (w := w) (base := base) T
  obtain ⟨fd, F⟩ := T.d_side_of
  refine ⟨fd, okP (k := 1) F sc_side_of (fun cdv A outer s H E hr => PSs.nox ((qss_cons (qs_set (ps_set (i := 1) sc_side_of.nd rfl (Or.inl rfl) (q_ifExp (qt_val (q_call G_is_infinite (hr.mono (by decide)) (by rfl) T.g_is_infinite k_is_infinite b_is_infinite (qa_cons (q_var (pv 0)) qa_nil))) (q_int pe_int) (q_ct int_1 c_int (by rfl) T.n_int (by decide +kernel) (qa_cons (q_cmp op_ne r_ne (q_fld f_coef T.cl_Decimal T.no_Decimal_coefficient (q_var (pv 0))) (q_int pe_int) (nomark _)) qa_nil)))))
 (qss_one (qs_ret (q_ifExp (qt_cmp op_eq r_eq (q_fld f_sign T.cl_Decimal T.no_Decimal_sign (q_var (pv 0))) (q_int pe_int) (nomark _)) (q_un un_neg r_neg (q_var (pv 1))) (q_var (pv 1)))))))) (fun ds O Q h => ?_) (fun ds O Q h => ?_), F.bindsN (fun _ _ _ _ _ _ us hl => match us, hl with | [_], _ => rfl), F.kp⟩
  · obtain ⟨a, rfl, _⟩ := h
    rfl
  · obtain ⟨a, rfl, k⟩ := h
    walk_at "q"
    unfold sideX magX at k
    cases hi : a.e.isInf with
    | true =>
      rw [hi] at k
      refine iteT (iteD (fun h => ?_) (fun h => ?_))
      · rw [if_pos h] at k
        exact k
      · rw [if_neg h] at k
        exact k
    | false =>
      rw [hi] at k
      by_cases hc : a.c = 0
      · simp only [hc, decide_true, Bool.not_true, Bool.false_eq_true, if_true, if_false] at k ⊢
        refine iteD (fun h => ?_) (fun h => ?_)
        · rw [if_pos h] at k
          exact k
        · rw [if_neg h] at k
          exact k
      · simp only [hc, decide_false, Bool.not_false, Bool.false_eq_true, if_true, if_false] at k ⊢
        refine iteD (fun h => ?_) (fun h => ?_)
        · rw [if_pos h] at k
          exact k
        · rw [if_neg h] at k
          exact k
theorem ok_size_order (T : Tx K mg) : OkP P w K mg base 4 ("size_order", none) ["a", "b"] g_size_order := by
  obtain ⟨fd_Decimal_adjusted, G_Decimal_adjusted, b_Decimal_adjusted, k_Decimal_adjusted⟩ := ok_Decimal_adjusted (P := P) (w := w) (base := base) T
  obtain ⟨fd_tens, G_tens, b_tens, k_tens⟩ := ok_tens (P := P) (w := w) (base := base) T
  obtain ⟨fd, F⟩ := T.d_size_order
  refine ⟨fd, okP (k := 3) F sc_size_order (fun cdv A outer s H E hr => PSs.nox ((qss_cons (qs_if (qt_cmp op_ne r_ne (q_meth0 (rc_dec fun _ _ _ => rfl) (q_var (pv 0)) T.cl_Decimal T.me_Decimal_adjusted G_Decimal_adjusted (hr.mono (by decide)) b_Decimal_adjusted) (q_meth0 (rc_dec fun _ _ _ => rfl) (q_var (pv 1)) T.cl_Decimal T.me_Decimal_adjusted G_Decimal_adjusted (hr.mono (by decide)) b_Decimal_adjusted) (nomark _))
 (qss_one (qs_ret (q_ifExp (qt_cmp op_lt r_B (q_meth0 (rc_dec fun _ _ _ => rfl) (q_var (pv 0)) T.cl_Decimal T.me_Decimal_adjusted G_Decimal_adjusted (hr.mono (by decide)) b_Decimal_adjusted) (q_meth0 (rc_dec fun _ _ _ => rfl) (q_var (pv 1)) T.cl_Decimal T.me_Decimal_adjusted G_Decimal_adjusted (hr.mono (by decide)) b_Decimal_adjusted) (nomark _)) (q_un un_neg r_neg (q_int pe_int)) (q_int pe_int))))
 qss_nil)
 (qss_cons (qs_set (ps_set (i := 2) sc_size_order.nd rfl (Or.inl rfl) (q_op op_sub r_I0 (q_fld f_exp T.cl_Decimal T.no_Decimal_exponent (q_var (pv 0))) (q_fld f_exp T.cl_Decimal T.no_Decimal_exponent (q_var (pv 1))))))
 (qss_cons (qs_set (ps_set (i := 3) sc_size_order.nd rfl (Or.inl rfl) (q_op op_mulW r_I (q_fld f_coef T.cl_Decimal T.no_Decimal_coefficient (q_var (pv 0))) (q_call G_tens (hr.mono (by decide)) (by rfl) T.g_tens k_tens b_tens (qa_cons (q_cb (max_i rfl) c_max (by rfl) T.n_max (by decide +kernel) (qa_cons (q_var (pv 2)) (qa_cons (q_int pe_int) qa_nil))) qa_nil)))))
 (qss_cons (qs_set (ps_set (i := 4) sc_size_order.nd rfl (Or.inl rfl) (q_op op_mulW r_I (q_fld f_coef T.cl_Decimal T.no_Decimal_coefficient (q_var (pv 1))) (q_call G_tens (hr.mono (by decide)) (by rfl) T.g_tens k_tens b_tens (qa_cons (q_cb (max_i rfl) c_max (by rfl) T.n_max (by decide +kernel) (qa_cons (q_un un_neg r_neg (q_var (pv 2))) (qa_cons (q_int pe_int) qa_nil))) qa_nil)))))
 (qss_one (qs_ret (q_op op_sub r_I0 (q_ct int_1 c_int (by rfl) T.n_int (by decide +kernel) (qa_cons (q_cmp op_gt r_B (q_var (pv 3)) (q_var (pv 4)) (nomark _)) qa_nil)) (q_ct int_1 c_int (by rfl) T.n_int (by decide +kernel) (qa_cons (q_cmp op_lt r_B (q_var (pv 3)) (q_var (pv 4)) (nomark _)) qa_nil))))))))))) (fun ds O Q h => ?_) (fun ds O Q h => ?_), F.bindsN (fun _ _ _ _ _ _ us hl => match us, hl with | [_, _], _ => rfl), F.kp⟩
  · obtain ⟨s, c1, e1, t, c2, e2, rfl, _⟩ := h
    rfl
  · obtain ⟨s, c1, e1, t, c2, e2, rfl, h1, h2, l1, l2, k⟩ := h
    walk_at "q"
    have n1 := nd_pos c1
    have n2 := nd_pos c2
    refine ⟨e1, rfl, by omega, e2, rfl, by omega, iteND (fun h => ⟨e1, rfl, by omega, e2, rfl, by omega, iteD (fun h3 => ?_) (fun h3 => ?_)⟩) (fun h => ?_)⟩
    · rw [valO_lt h1 h2 (by omega)] at k
      exact k
    · rw [valO_gt h1 h2 (by omega)] at k
      exact k
    · have b1 := natAbs_lt (Int.le_of_lt h1) (Int.lt_of_lt_of_le (lt_nd (Int.le_of_lt h1)) (pw_mono (show (nd c1).toNat ≤ 30000 by omega)))
      have b2 := natAbs_lt (Int.le_of_lt h2) (Int.lt_of_lt_of_le (lt_nd (Int.le_of_lt h2)) (pw_mono (show (nd c2).toNat ≤ 30000 by omega)))
      have t1 : ∀ x : Int, x ≤ 30000 → ((10 : Int) ^ x.toNat).natAbs < 10 ^ 30001 := fun x hx => by
        rw [abs10]
        exact Nat.pow_lt_pow_right (by decide) (by omega)
      refine ⟨by omega, by omega, mulW_of b1 (t1 _ (by omega)) (by decide), by omega, by omega, mulW_of b2 (t1 _ (by omega)) (by decide), ?_⟩
      unfold valO cmpI b2i at k
      rw [show e1 - min e1 e2 = max (e1 - e2) 0 by omega, show e2 - min e1 e2 = max (-(e1 - e2)) 0 by omega] at k
      exact k
theorem ok_order_of (T : Tx K mg) : OkP P w K mg base 5 ("order_of", none) ["a", "b"] g_order_of := by
  obtain ⟨fd_is_finite, G_is_finite, b_is_finite, k_is_finite⟩ := ok_is_finite (P := P) (w := w) (base := base) T
  obtain ⟨fd_side_of, G_side_of, b_side_of, k_side_of⟩ := ok_side_of (P := P) (w := w) (base := base) T
  obtain ⟨fd_size_order, G_size_order, b_size_order, k_size_order⟩ := ok_size_order (P := P) (w := w) (base := base) T
  obtain ⟨fd, F⟩ := T.d_order_of
  refine ⟨fd, okP (k := 4) F sc_order_of (fun cdv A outer s H E hr => PSs.nox ((qss_cons (qs_if (PW.pt (qt_and (qt_cmp op_eq r_eq (q_fld f_coef T.cl_Decimal T.no_Decimal_coefficient (q_var (pv 0))) (q_int pe_int) (nomark _)) (qt_and (qt_cmp op_eq r_eq (q_fld f_coef T.cl_Decimal T.no_Decimal_coefficient (q_var (pv 1))) (q_int pe_int) (nomark _)) (qt_and (qt_val (q_call G_is_finite (hr.mono (by decide)) (by rfl) T.g_is_finite k_is_finite b_is_finite (qa_cons (q_var (pv 0)) qa_nil))) (qt_and1 (qt_val (q_call G_is_finite (hr.mono (by decide)) (by rfl) T.g_is_finite k_is_finite b_is_finite (qa_cons (q_var (pv 1)) qa_nil))))))))
 (qss_one (qs_ret (q_int pe_int)))
 qss_nil)
 (qss_cons (qs_par (ps_par (i := 2) (j := 3) (by rfl) sc_order_of.nd rfl rfl (by decide) rfl rfl (qa_cons (q_call G_side_of (hr.mono (by decide)) (by rfl) T.g_side_of k_side_of b_side_of (qa_cons (q_var (pv 0)) qa_nil)) (qa_cons (q_call G_side_of (hr.mono (by decide)) (by rfl) T.g_side_of k_side_of b_side_of (qa_cons (q_var (pv 1)) qa_nil)) qa_nil)) (by rfl)))
 (qss_cons (qs_if (qt_cmp op_ne r_ne (q_var (pv 2)) (q_var (pv 3)) (nomark _))
 (qss_one (qs_ret (q_ifExp (qt_cmp op_lt r_B (q_var (pv 2)) (q_var (pv 3)) (nomark _)) (q_un un_neg r_neg (q_int pe_int)) (q_int pe_int))))
 qss_nil)
 (qss_cons (qs_if (qt_cmp op_eq r_eq (q_cb abs_i c_abs (by rfl) T.n_abs (by decide +kernel) (qa_cons (q_var (pv 2)) qa_nil)) (q_int pe_int) (nomark _))
 (qss_one (qs_ret (q_int pe_int)))
 qss_nil)
 (qss_one (qs_ret (q_op op_mulW r_I (q_var (pv 2)) (q_call G_size_order (hr.mono (by decide)) (by rfl) T.g_size_order k_size_order b_size_order (qa_cons (q_var (pv 0)) (qa_cons (q_var (pv 1)) qa_nil)))))))))))) (fun ds O Q h => ?_) (fun ds O Q h => ?_), F.bindsN (fun _ _ _ _ _ _ us hl => match us, hl with | [_, _], _ => rfl), F.kp⟩
  · obtain ⟨a, b, rfl, _⟩ := h
    rfl
  · obtain ⟨a, b, rfl, q, k⟩ := h
    walk_at "q"
    unfold ordX at k
    have zc : (a.c = 0 ∧ b.c = 0 ∧ a.e.isFin = true ∧ b.e.isFin = true) ∨ ¬ (a.c = 0 ∧ b.c = 0 ∧ a.e.isFin = true ∧ b.e.isFin = true) := Classical.em _
    rcases zc with ⟨z1, z2, z3, z4⟩ | hz
    · have s0 : ∀ x : Dc, x.c = 0 → x.e.isFin = true → sideX x = 0 := fun x h1 h2 => by
        have hi : x.e.isInf = false := by cases he : x.e <;> rw [he] at h2 <;> first | rfl | cases h2
        unfold sideX magX
        rw [hi, h1]
        split <;> rfl
      rw [s0 a z1 z3, s0 b z2 z4] at k
      have k : Q (D.int (0 * valO a.c (exI a.e) b.c (exI b.e))) O := k
      rw [Int.zero_mul] at k
      rw [z3, z4]
      exact iteD (fun _ => iteD (fun _ => iteT (iteT k)) (fun h => absurd z2 h)) (fun h => absurd z1 h)
    · have tl : if (!decide (sideX a = sideX b)) = true then (if decide (sideX a < sideX b) = true then Q (D.int (-1)) O else Q (D.int 1) O) else (if decide (((sideX a).natAbs : Int) = 2) = true then Q (D.int 0) O else ∃ s c1 e1, a = ⟨s, c1, .fin e1⟩ ∧ ∃ x x_1 x_2, b = ⟨x, x_1, .fin x_2⟩ ∧ 0 < c1 ∧ 0 < x_1 ∧ nd c1 ≤ 30000 ∧ nd x_1 ≤ 30000 ∧ CMulW (sideX a) (valO c1 e1 x_1 x_2) ∧ Q (D.int (sideX a * valO c1 e1 x_1 x_2)) O) := by
        refine iteND (fun h => ?_) (fun h => ?_)
        · rw [if_pos h] at k
          refine iteD (fun h2 => ?_) (fun h2 => ?_)
          · rw [if_pos h2] at k
            exact k
          · rw [if_neg h2] at k
            exact k
        · rw [if_neg (fun q => q h)] at k
          refine iteD (fun h2 => ?_) (fun h2 => ?_)
          · rw [if_pos (by omega)] at k
            exact k
          · rw [if_neg (by omega)] at k
            have na := q.na
            have nb := q.nb
            have la := q.la
            have lb := q.lb
            have oa := q.oa.co
            have ob := q.ob.co
            obtain ⟨s, c1, e1⟩ := a
            obtain ⟨t, c2, e2⟩ := b
            have sI : ∀ s c : Int, (sideX ⟨s, c, .inf⟩).natAbs = 2 := fun s c => by
              unfold sideX magX
              split <;> rfl
            cases e1 with
            | qn => cases na
            | sn => cases na
            | inf => exact absurd (congrArg (fun n : Nat => (n : Int)) (sI s c1)) h2
            | fin n1 =>
              cases e2 with
              | qn => cases nb
              | sn => cases nb
              | inf =>
                rw [h] at h2
                exact absurd (congrArg (fun n : Nat => (n : Int)) (sI t c2)) h2
              | fin n2 =>
                have sF : ∀ s c n : Int, sideX ⟨s, c, .fin n⟩ = 0 ↔ c = 0 := fun s c n => by
                  unfold sideX magX
                  by_cases h : c = 0
                  · simp [h, Ex4.isInf]
                  · simp [h, Ex4.isInf]
                    split <;> decide
                have ne1 : c1 ≠ 0 := fun e => by
                  have e2 : c2 = 0 := (sF t c2 n2).mp (by rw [← h]; exact (sF s c1 n1).mpr e)
                  exact hz ⟨e, e2, rfl, rfl⟩
                have ne2 : c2 ≠ 0 := fun e => by
                  have e2 : c1 = 0 := (sF s c1 n1).mp (by rw [h]; exact (sF t c2 n2).mpr e)
                  exact ne1 e2
                have oa : 0 ≤ c1 := oa
                have ob : 0 ≤ c2 := ob
                refine ⟨s, c1, n1, rfl, t, c2, n2, rfl, by omega, by omega, la, lb, ?_, k⟩
                have hm := magX_cases ⟨s, c1, .fin n1⟩
                have hsd : (sideX ⟨s, c1, .fin n1⟩).natAbs < 10 := by
                  unfold sideX
                  split <;> omega
                have hv : (valO c1 n1 c2 n2).natAbs < 10 := by
                  rcases valO_cases c1 n1 c2 n2 with hv | hv | hv <;> rw [hv] <;> decide
                exact mulW_of (m := 1) (n := 1) hsd hv (by decide)
      refine iteD (fun h1 => iteD (fun h2 => ?_) (fun _ => tl)) (fun _ => tl)
      cases h3 : a.e.isFin with
      | false => exact iteF tl
      | true =>
        refine iteT ?_
        cases h4 : b.e.isFin with
        | false => exact iteF tl
        | true => exact absurd ⟨h1, h2, h3, h4⟩ hz
end

section
variable {P : Program} {w : World} {K : PySem.W.Frag} {mg : Str → Option Value} {base : Heap}
theorem ok_decimal_of (T : Tx K mg) : OkP P w K mg base 5 ("decimal_of", none) ["operand"] g_decimal_of := by
  obtain ⟨fd_is_integer, G_is_integer, b_is_integer, k_is_integer⟩ := ok_is_integer (P := P) (w := w) (base := base) T
  obtain ⟨fd_Decimal___init__, G_Decimal___init__, b_Decimal___init__, k_Decimal___init__⟩ := ok_Decimal___init__ (P := P) (w := w) (base := base) T
  obtain ⟨fd, F⟩ := T.d_decimal_of
  refine ⟨fd, okP (k := 4) F sc_decimal_of (fun cdv A outer s H E hr => PSs.nox ((qss_cons (qs_if (qt_val (q_cb (isi_own T.cl_Decimal T.ow_Decimal) (c_isDec (K := K)) (by rfl) T.n_isinstance (by decide +kernel) (qa_cons (q_var (pv 0)) (qa_cons (q_ref (pe_gR (by rfl) T.g_Decimal)) qa_nil))))
 (qss_one (qs_ret (q_var (pv 0))))
 qss_nil)
 (qss_cons (qs_if (qt_not (qt_val (q_call G_is_integer (hr.mono (by decide)) (by rfl) T.g_is_integer k_is_integer b_is_integer (qa_cons (q_var (pv 0)) qa_nil))))
 (qss_one qs_never)
 qss_nil)
 (qss_one (qs_ret (q_mkDec T.m_Decimal G_Decimal___init__ (hr.mono (by decide)) (by rfl) T.g_Decimal b_Decimal___init__ (qa_cons (q_ct int_1 c_int (by rfl) T.n_int (by decide +kernel) (qa_cons (q_cmp op_lt r_B (q_var (pv 0)) (q_int pe_int) (nomark _)) qa_nil)) (qa_cons (q_cb abs_i c_abs (by rfl) T.n_abs (by decide +kernel) (qa_cons (q_var (pv 0)) qa_nil)) (qa_cons (q_int pe_int) qa_nil)))))))))) (fun ds O Q h => ?_) (fun ds O Q h => ?_), F.bindsN (fun _ _ _ _ _ _ us hl => match us, hl with | [_], _ => rfl), F.kp⟩
  · obtain ⟨d, a, rfl, _⟩ := h
    rfl
  · obtain ⟨d, a, rfl, h, k⟩ := h
    cases h with
    | dec a =>
      walk_at "q"
      exact k
    | int i =>
      walk_at "q"
      simp only [decide_eq_true_eq] at k ⊢
      refine .inr ⟨⟨?_, ?_, fun h => nomatch h⟩, k⟩
      · show (if i < 0 then (1 : Int) else 0) = 0 ∨ (if i < 0 then (1 : Int) else 0) = 1
        split
        · exact .inr rfl
        · exact .inl rfl
      · show (0 : Int) ≤ (i.natAbs : Int)
        omega
end

set_option hygiene false in
local macro_rules | `(tactic| walk_at "q") => `(tactic| simp (config := { maxSteps := 2000000 }) only [g_tens, g_count_digits, g_goes_up, g_rounded_parts, g_overflow, g_finish_zero, g_finish_cut, g_finish_parts, g_etiny, g_etop, g_infinity, g_plain_nan, gQ, g_is_integer, g_is_exponent, g_kept_digits, g_finish, g_nan_of, g_with_sign_sums, g_un, g_signal_of, g_check_between, optT_none, optT_some, dCFld, dCMeth, dInG, dNiG, dInGT, dNiGT, fSortD, fIsLT, fAll, dDcT, dDcL, vD, ex_n', ex_F', ex_N', g_with_one, g_outcome_of, g_is_operation, g_told, g_names_of, g_draw, g_one, g_well, dKw, fCtx, g_law_ten, g_law_parts, g_law_ways, g_law_rules, g_law_context, g_law_digits, g_law_number, dSl, dNoP, dPart, fSlL, fSlR, fSlS, fRepS, fIntS, g_law_is_near, g_law_is_over, g_law_most, g_law_is_cut, dCutS, fRepB, dCSet, dLcK, fInDct, fListD, g_clear_flags, g_flags, g_noted, g_settled, g_meth1, g_meth2, g_meth3, g_law, ite01_or, ite01_dec, g_law_wide_rules, g_law_far_number, g_invalid, g_sign_of_both, g_exact_product, g_bin, optDc_none, optDc_some, g_with_two, g_first_half, g_second_half, dSlK, fSlT, g_law_coefficient, g_law_pair, g_adjusted, g_worth, g_sum_parts, g_added, g_tri, g_law_far_pair, eUnl, g_law_sum, g_law_made, g_law_turned, g_law_three, gOr, g_names_ofL, dCTrp, g_set_traps, g_law_pair2, g_law_whole_right, dApp, eSub, g_law_madeX, g_law_special, g_law_any, g_law_quiet, g_law_is_due, g_law_product, g_law_fma_right, optQ_none, optQ_some, optX_none, optX_some, dLcRM, dLstW, fCatLM, dLcS, g_wellF, g_nan_ofT, g_law_tens, g_law_numberF, g_law_frame, g_law_near, g_law_ground, g_unF, g_law_raised, g_law_over, g_law_finished, g_law_nan, optN_none, optN_some, g_law_due59, g_law_things59, dDisp, dPairs, dGet2, fIxD, g_side_of, g_size_order, g_order_of, g_as_decimal, g_deq1, g_deq2, fEqO, fNeO, g_is_integer2, fIsDecInt, dSeq, dNext, dCont, dBreak, dNever, dDrop, dRet, dRetN, dIfS, dAsg, dPar, dPar3, dAug, eName, eNil, eCons, eTup, dVar, dC, dOp, dUn, dCl, dTest, dAnd, dOr, dNot, dAndV, dOrV, dNotV, dIf, dChain, dNil, dCons, dTup, dLst, dLstM, dFld, dMeth, dForL, dForT, dForR, dForR2, dLcL, dLcT, dLcR, dYes, dFreeze, fI, fI0, fB, fNeg, fEq, fNe, fEqD, fNeD, fIsN, fNotN, fIn, fNi, fIxT, fIxL, fIxR, fIxM, fCatS, fCatL, fCatT, fRepL, fAbs, fMax, fMin, fInt, fStr, fLenS, fLenT, fLenL, fLenR, fListT, fListL, fTupL, fDivmod, fIs, fIsDec, fIsTup, fDec, fRul, isDecD, isRulD, exOf_int, exOf_d, fltD_non, fltD_bl, fltD_int, fltD_str, fltD_tup, fltD_lst, fltD_dec, fltD_rul, fltD_ref, isIntD_non, isIntD_bl, isIntD_int, isIntD_str, isIntD_tup, isIntD_lst, isIntD_dec, isIntD_rul, isIntD_ref, isNumD_non, isNumD_bl, isNumD_int, isNumD_str, isNumD_tup, isNumD_lst, isNumD_dec, isNumD_rul, isNumD_ref, isBlD_non, isBlD_bl, isBlD_int, isBlD_str, isBlD_tup, isBlD_lst, isBlD_dec, isBlD_rul, isBlD_ref, isStrD_non, isStrD_bl, isStrD_int, isStrD_str, isStrD_tup, isStrD_lst, isStrD_dec, isStrD_rul, isStrD_ref, isNon_non, isNon_bl, isNon_int, isNon_str, isNon_tup, isNon_lst, isNon_dec, isNon_rul, isNon_ref, numD_int, numD_bl, gSign_dec, gCoef_dec, gExp_dec, gPrec_rul, gRnd_rul, gEmin_rul, gEmax_rul, gClamp_rul, sc2_non_non, seq_non_non, eqF_non_non, sc2_non_bl, seq_non_bl, eqF_non_bl, sc2_non_int, seq_non_int, eqF_non_int, sc2_non_str, seq_non_str, eqF_non_str, sc2_bl_non, seq_bl_non, eqF_bl_non, sc2_bl_bl, seq_bl_bl, eqF_bl_bl, eqF_bl_int, sc2_bl_str, seq_bl_str, eqF_bl_str, sc2_int_non, seq_int_non, eqF_int_non, eqF_int_bl, sc2_int_int, seq_int_int, eqF_int_int, sc2_int_str, seq_int_str, eqF_int_str, sc2_str_non, seq_str_non, eqF_str_non, sc2_str_bl, seq_str_bl, eqF_str_bl, sc2_str_int, seq_str_int, eqF_str_int, sc2_str_str, seq_str_str, eqF_str_str, inD_nil, inD_cons, exd_fin, exd_inf, exd_qn, exd_sn, isFin_fin, isFin_inf, isFin_qn, isFin_sn, isInf_fin, isInf_inf, isInf_qn, isInf_sn, isNan_fin, isNan_inf, isNan_qn, isNan_sn, isSn_fin, isSn_inf, isSn_qn, isSn_sn, flt_ex, int_ex, sc_ex, ex_F, ex_n, ex_N, dstart, List.map_cons, List.map_nil, List.append_nil, List.cons_append, List.nil_append, List.length_cons, List.length_nil, List.replicate_succ, List.replicate_zero, List.getElem?_cons_zero, List.getElem?_cons_succ, List.set_cons_zero, List.set_cons_succ, List.all_cons, List.all_nil, Nat.add_one_sub_one, Nat.sub_self, Nat.reduceAdd, Nat.reduceSub, Nat.zero_add, Nat.sub_zero, at1_0', at2_0', at2_1', at3_0', at3_1', at3_2', at5_0', at5_1', at5_2', at5_3', at5_4', updO_same, updO_updO,
  Option.some.injEq, exists_eq_left', exists_eq_left, exists_eq, exists_eq', exists_and_left, exists_and_right, D.int.injEq, D.bl.injEq, D.str.injEq, D.ref.injEq, D.tup.injEq, D.lst.injEq, D.dec.injEq, D.rul.injEq, D.ty.injEq, MO.well.injEq, MO.lst.injEq, MO.ctx.injEq, List.cons.injEq, reduceCtorEq, Nat.reduceLeDiff, and_assoc, and_true, true_and, false_and, and_false, or_false, false_or, Bool.or_false, Bool.false_or, Bool.and_self, Bool.and_true, Bool.true_and, Bool.false_eq_true, if_true, if_false, ite_true, ite_false, Bool.not_true, Bool.not_false, reduceIte, decide_true, decide_false])
set_option hygiene false in
local macro_rules | `(tactic| walk_at "br") => `(tactic| repeat (first | refine ite_yes (by decide +kernel) ?_ | refine ite_no (by decide +kernel) ?_))
set_option hygiene false in
local macro_rules | `(tactic| walk_at "yes") => `(tactic| first | exact k | exact (congrArg (fun b => Q (D.bl b) O) (show _ = true by decide +kernel)).mpr k)

/-! ### == and != of objects with an own __eq__ -/
section
open PySem.W PySem.Calls PyProof.Rows
variable {X : Cx} {C g : Addr} {n : Nat} {fd : FuncData} {ps : List Str} {sp : Sp} {pins : List (Addr × Obj)} {σ : L2.St} {H : Hp} {s : Shared} {a dx : Addr} {fs : List (Str × V)} {y : V} {u : Value}
theorem ins_inst (I : Inv X pins σ H s) (e : H a = some (.ins C dx fs)) : ∃ ox od, InstAt s.heap a ox C od := by
  obtain ⟨mA, O, _⟩ := ins_get I.hok e
  obtain ⟨od, J, _⟩ := O.look
  exact ⟨_, _, J⟩
def OthD (C : Addr) (y : V) (H : Hp) : Prop := (∃ i, y = .int i) ∨ ∃ b dy ws, y = .ref b ∧ H b = some (.ins C dy ws)
def rEqOwn (C : Addr) (sp : Sp) : R2 := fun x y H Q => ∃ a dx fs, x = .ref a ∧ H a = some (.ins C dx fs) ∧ OthD C y H ∧ sp [x, y] H Q E0
def rNeOwn (C : Addr) (sp : Sp) : R2 := fun x y H Q => ∃ a dx fs, x = .ref a ∧ H a = some (.ins C dx fs) ∧ OthD C y H ∧ sp [x, y] H (fun v H1 => ∃ b, v = .bl b ∧ Q (.bl (!b)) H1) E0
theorem oth_looks (I : Inv X pins σ H s) (h : OthD C y H) (r : RelV y u) (hi : subIn X.K (.type "int") (.ref C) = some false) : ∃ tb, Looks (model X.prog X.w) s.heap (typeOf u) tb ∧ notFirst X.K C tb = true := by
  rcases h with ⟨i, rfl⟩ | ⟨b, dy, ws, rfl, hb⟩
  · obtain ⟨t, rfl⟩ : ∃ t, u = .int i t := r
    refine ⟨.type "int", Looks.of_pure rfl, ?_⟩
    unfold notFirst
    rw [hi]
    simp
  · cases (show u = Value.ref b from r)
    obtain ⟨ox, od, J⟩ := ins_inst I hb
    refine ⟨.ref C, J.type, ?_⟩
    unfold notFirst
    simp
theorem back_of {P : Value → Shared → Prop} {z : V} {v : Value} {s' : Shared} (r : RelV z v) (h : P v s') : PySem.W.CmpBack P v s' := by
  cases v with
  | notImplemented =>
    cases z <;> first | (cases r; done) | (obtain ⟨_, r⟩ := r; cases r; done) | (simp [RelV] at r; done)
  | _ => exact h
theorem op_eqOwn (hs : findIn X.K (.ref C) "__eq__" = some (some (.ref g))) (hf : isFn X.K (.ref g) = true) (hi : subIn X.K (.type "int") (.ref C) = some false) (F : FnOk X.prog X.w X.K X.mg X.base CX0 n g fd ps sp) (hr : Room n X.A) (hb : Binds X.K fd ps []) :
    OpR X (compareOp .Eq) (rEqOwn C sp) := by
  intro pins s σ H x y v u Q I rx ry h
  obtain ⟨a, dx, fs, rfl, ha, hy, q⟩ := h
  cases (show v = Value.ref a from rx)
  obtain ⟨ox, od, J⟩ := ins_inst I ha
  obtain ⟨tb, L, nf⟩ := oth_looks I hy ry hi
  obtain ⟨m, hF⟩ := I.fr
  show wpAny _ _ (richCompare .Eq (.ref a) u) _ _ _
  refine cmp_K (op := .Eq) (tb := tb) hr.units0 hF I.ok.mod.kin J L nf hs hf ?_
  refine wpAny_mono (run_fn (us := [.ref a, u]) (vs := [.ref a, y]) F hr hb .nil (E := E0) (fun _ _ _ _ _ _ _ z => False.elim z) I (.cons rfl (.cons ry .nil)) q) (fun w s' z => ?_) fun _ _ x => x
  obtain ⟨z', H', I', rz, qz⟩ := z
  exact back_of rz ⟨z', H', I', rz, qz⟩
theorem bound_ne {M : Model} {A : Around} {E : Value → Shared → Prop} {K : Frag} {x : Addr} {ox : Obj} {od : Option Obj} {args : List Value} {Q : Option Value → Shared → Prop} (X : K.In s.heap) (I : InstAt s.heap x ox C od) (hs : findIn K (.ref C) "__ne__" = some (some (.builtin "object.__ne__")))
    (h : wpAny M A (call (.builtin "object.__ne__") (.ref x :: args)) (fun v => Q (some v)) E s) : wpAny M A (callSpecialIfBound? (.ref x) "__ne__" args) Q E s := by
  simp only [callSpecialIfBound?, bindSpecialIfBound?]
  refine wpAny_holding (wpAny_bind (wpAny_bind (wpAny_bind (I.type.here ((looks_findIn X hs).here ?_)))))
  refine wpAny_bind (wpAny_askSetting (wpAny_ite ?_))
  have e1 : wpAny M A (call (.builtin "object.__ne__") ([.ref x] ++ args) >>= fun v => pure (some v)) Q E s := wpAny_bind (wpAny_mono h (fun _ _ hq => wpAny_pure hq) fun _ _ hq => hq)
  split
  · exact wpAny_bind (wpAny_of_eq (F.cmp_object.ne.bind _) (wpAny_pure (by exact e1)))
  · exact wpAny_tryCatch (wpAny_bind (wpAny_of_eq (F.cmp_object.ne.bind _) (wpAny_pure (by exact e1))))
theorem op_neOwn (hs : findIn X.K (.ref C) "__eq__" = some (some (.ref g))) (hn : findIn X.K (.ref C) "__ne__" = some (some (.builtin "object.__ne__"))) (hm : mroIn X.K C (.type "object") = some true) (hf : isFn X.K (.ref g) = true) (hi : subIn X.K (.type "int") (.ref C) = some false)
    (F1 : FnOk X.prog X.w X.K X.mg X.base CX0 n g fd ps sp) (hr : Room (n + 1) X.A) (hb : Binds X.K fd ps []) : OpR X (compareOp .NotEq) (rNeOwn C sp) := by
  intro pins s σ H x y v u Q I rx ry h
  obtain ⟨a, dx, fs, rfl, ha, hy, q⟩ := h
  cases (show v = Value.ref a from rx)
  obtain ⟨ox, od, J⟩ := ins_inst I ha
  obtain ⟨tb, L, nf⟩ := oth_looks I hy ry hi
  obtain ⟨m, hF⟩ := I.fr
  show wpAny _ _ (richCompare .NotEq (.ref a) u) _ _ _
  have kI := I.kIn
  have hl : [Value.ref a, u].length = ps.length := F1.len _ _ _ _ q
  have b1 := hb s [.ref a, u] kI (by rw [List.append_nil]; exact hl)
  rw [List.append_nil] at b1
  have run := F1.run X.A.in1 X.stack s H ⟨[.ref a, u], []⟩ [.ref a, u] [.ref a, y] _ E0 hr.in1 I.env0.in1 b1 (.cons rfl (.cons ry .nil)) q
  have hu : X.A.in1.units < cLine := (hr.in1 (k := n)).units0
  have body : wpAny (model X.prog X.w) X.A.in1 (Builtin.«object.__ne__» ⟨[.ref a, u], []⟩) (fun fin s' => ∃ w, fin = .done (.ret w) ∧ PySem.W.CmpBack (EP X pins σ Q) w s') X.xe s := by
    unfold Builtin.«object.__ne__»
    repeat (first
      | with_reducible refine wpAny_cRoomFor hu ?_
      | refine wpAny_bind (m := callSpecialIfBound? (.ref a) (Str.ofString "__eq__") [u]) (ifBound_K kI J hs hf (wpAny_call (codeAny_mono run fun r s' hq => ?_)))
      | wp_step)
    cases r with
    | error e => exact hq.elim
    | ok fl =>
      cases fl with
      | ret w =>
        obtain ⟨z, H', I', rz, b, rfl, qz⟩ := I.after hq
        cases (show w = Value.bool b from rz)
        dsimp only
        refine wpAny_bind (m := truthy (.bool b)) (wpAny_truthy_bool ?_)
        repeat wp_step
        exact ⟨_, rfl, (⟨.bl (!b), H', I', rfl, qz⟩ : EP X pins σ Q (.bool (!b)) _)⟩
      | next => exact hq.elim
      | brk => exact hq.elim
      | cont => exact hq.elim
  have one : wpAny (model X.prog X.w) X.A (tryCompare (.ref a) (cmpInfo .NotEq).2.1 u) (fun r s' => ∃ v, r = some v ∧ EP X pins σ Q v s') X.xe s := by
    unfold tryCompare
    refine wpAny_bind (bound_ne kI J hn (wpAny_call (codeAny_call_builtin F.cmp_object.ne.plain F.cmpEntry_ne (PySem.W.check_slot F.cmpKind_ne F.cmpSplit_ne (J.type.andThen (looks_mroIn kI hm)) (F.cmpArgs_ne _ _) (wpAny_mono body (fun fin s' hfin => ?_) fun _ _ e => e)))))
    obtain ⟨w, rfl, hw⟩ := hfin
    cases w <;> first | exact hw.elim | exact wpAny_pure ⟨_, rfl, hw⟩
  unfold richCompare
  simp only [oneThing_ref]
  refine wpAny_holding (wpAny_bind (wpAny_cRoomFor hr.units0 ?_))
  refine wpAny_bind (J.type.here (wpAny_bind (L.here ?_)))
  split
  · rename_i q
    have e : subIn X.K tb (.ref C) = some false := by
      rcases Bool.or_eq_true_iff.mp nf with e | e
      · rw [beq_iff_eq.mp e] at q
        simp at q
      · exact beq_iff_eq.mp e
    refine wpAny_bind ((looks_subIn kI e).here ?_)
    simp only [Bool.false_eq_true, if_false]
    refine wpAny_bind (wpAny_mono one (fun r s' z => ?_) fun _ _ e => e)
    obtain ⟨v, rfl, hq⟩ := z
    exact wpAny_pure hq
  · refine wpAny_bind (wpAny_pure ?_)
    simp only [Bool.false_eq_true, if_false]
    refine wpAny_bind (wpAny_mono one (fun r s' z => ?_) fun _ _ e => e)
    obtain ⟨v, rfl, hq⟩ := z
    exact wpAny_pure hq
end
/-- a Decimal == .. -/
def fEqO (g : List D → Ow → DK → Prop) : D → D → Ow → DK → Prop := fun d1 d2 O P => (∃ a, d1 = .dec a) ∧ ((∃ i, d2 = .int i) ∨ ∃ b, d2 = .dec b) ∧ g [d1, d2] O P
def fNeO (g : List D → Ow → DK → Prop) : D → D → Ow → DK → Prop := fun d1 d2 O P => (∃ a, d1 = .dec a) ∧ ((∃ i, d2 = .int i) ∨ ∃ b, d2 = .dec b) ∧ g [d1, d2] O fun d O1 => ∃ b, d = .bl b ∧ P (.bl (!b)) O1
section
variable {K : PySem.W.Frag} {g : List D → Ow → DK → Prop}
theorem oth_of {F : Hp} {O : Ow} {H : Hp} {y : V} {d : D} (ho : Hold K F O H) (r : Rep K F y d) (h : (∃ i, d = .int i) ∨ ∃ b, d = .dec b) : OthD (He.ga K "Decimal") y H := by
  rcases h with ⟨i, rfl⟩ | ⟨b, rfl⟩
  · cases r
    exact .inl ⟨i, rfl⟩
  · cases r with
    | dec h _ => exact .inr ⟨_, _, _, rfl, ho.sub _ _ h⟩
theorem r_eqO : ROp K (rEqOwn (He.ga K "Decimal") (spP K g)) (fEqO g) := fun F O H v1 d1 v2 d2 P Q r1 r2 ho h k => by
  obtain ⟨⟨a, rfl⟩, h2, hg⟩ := h
  have ot := oth_of ho r2 h2
  have r1' := r1
  cases r1 with
  | dec h _ => exact ⟨_, _, _, rfl, ho.sub _ _ h, ot, [.dec a, d2], F, O, P, .cons r1' (.cons r2 .nil), ho, hg, k⟩
theorem r_neO : ROp K (rNeOwn (He.ga K "Decimal") (spP K g)) (fNeO g) := fun F O H v1 d1 v2 d2 P Q r1 r2 ho h k => by
  obtain ⟨⟨a, rfl⟩, h2, hg⟩ := h
  have ot := oth_of ho r2 h2
  have r1' := r1
  cases r1 with
  | dec h _ =>
    refine ⟨_, _, _, rfl, ho.sub _ _ h, ot, [.dec a, d2], F, O, _, .cons r1' (.cons r2 .nil), ho, hg, fun d O1 v F1 H1 q1 s1 r3 => ?_⟩
    obtain ⟨b, rfl, q1⟩ := q1
    cases r3
    exact ⟨b, rfl, k _ O1 _ F1 H1 q1 s1 (.bl _)⟩
end
/-- equal values -/
def eqX (a b : Dc) : Bool := !(a.e.isNan || b.e.isNan) && decide (ordX a b = 0)
def intD (i : Int) : Dc := ⟨if i < 0 then 1 else 0, (i.natAbs : Int), .fin 0⟩
structure EqQ (a b : Dc) : Prop where
  oa : a.Ok
  ob : b.Ok
  la : nd a.c ≤ 30000
  lb : nd b.c ≤ 30000
def g_is_integer2 : List D → Ow → DK → Prop := fun ds O P => ∃ a, ds = [.dec a] ∧ P (.bl false) O
def g_deq1 : List D → Ow → DK → Prop := fun ds O P => ∃ a b, ds = [.dec a, .dec b] ∧ EqQ a b ∧ P (.bl (eqX a b)) O
def g_deq2 : List D → Ow → DK → Prop := fun ds O P => ∃ a i, ds = [.dec a, .int i] ∧ EqQ a (intD i) ∧ P (.bl (eqX a (intD i))) O
section
variable {P : Program} {w : World} {K : PySem.W.Frag} {mg : Str → Option Value} {base : Heap}
theorem ok2_is_integer (T : Tx K mg) : OkP P w K mg base 1 ("is_integer", none) ["thing"] g_is_integer2 := by
  obtain ⟨fd, F⟩ := T.d_is_integer
  refine ⟨fd, okP (k := 0) F sc_is_integer (fun cdv A outer s H E hr => PSs.nox ((qss_one (qs_ret (q_and (q_cb (isi_decInt T.cl_Decimal T.ow_Decimal T.eqf.isi) c_isDecInt (by rfl) T.n_isinstance (by decide +kernel) (qa_cons (q_var (pv 0)) (qa_cons (q_ty (pe_bltn (v := .ty "int") (by rfl) T.n_int (by decide +kernel) rfl)) qa_nil))) (pe_one (q_not (q_cb isi_bool c_isBool (by rfl) T.n_isinstance (by decide +kernel) (qa_cons (q_var (pv 0)) (qa_cons (q_ty (pe_bltn (v := .ty "bool") (by rfl) T.n_bool (by decide +kernel) rfl)) qa_nil)))))))))) (fun ds O Q h => ?_) (fun ds O Q h => ?_), F.bindsN (fun _ _ _ _ _ _ us hl => match us, hl with | [_], _ => rfl), F.kp⟩
  · obtain ⟨a, rfl, _⟩ := h
    rfl
  · obtain ⟨a, rfl, k⟩ := h
    walk_at "q"
    exact k
theorem ok_Decimal___eq__ (T : Tx K mg) : OkP P w K mg base 6 ("Decimal", some "__eq__") ["self", "other"] (gOr g_deq2 g_deq1) := by
  obtain ⟨fd_is_integer, G_is_integer, b_is_integer, k_is_integer⟩ := ok_is_integer (P := P) (w := w) (base := base) T
  obtain ⟨fd_Decimal___init__, G_Decimal___init__, b_Decimal___init__, k_Decimal___init__⟩ := ok_Decimal___init__ (P := P) (w := w) (base := base) T
  obtain ⟨fd_is_nan, G_is_nan, b_is_nan, k_is_nan⟩ := ok_is_nan (P := P) (w := w) (base := base) T
  obtain ⟨fd_order_of, G_order_of, b_order_of, k_order_of⟩ := ok_order_of (P := P) (w := w) (base := base) T
  obtain ⟨fd2_is_integer, G2_is_integer, b2_is_integer, k2_is_integer⟩ := ok2_is_integer (P := P) (w := w) (base := base) T
  obtain ⟨fd, F⟩ := T.d_Decimal___eq__
  refine ⟨fd, orP (okP (k := 5) F sc_Decimal___eq__ (fun cdv A outer s H E hr => PSs.nox ((qss_cons (qs_if (qt_val (q_call G_is_integer (hr.mono (by decide)) (by rfl) T.g_is_integer k_is_integer b_is_integer (qa_cons (q_var (pv 1)) qa_nil)))
 (qss_one (qs_set (ps_set (i := 1) sc_Decimal___eq__.nd rfl (Or.inl rfl) (q_mkDec T.m_Decimal G_Decimal___init__ (hr.mono (by decide)) (by rfl) T.g_Decimal b_Decimal___init__ (qa_cons (q_ct int_1 c_int (by rfl) T.n_int (by decide +kernel) (qa_cons (q_cmp op_lt r_B (q_var (pv 1)) (q_int pe_int) (nomark _)) qa_nil)) (qa_cons (q_cb abs_i c_abs (by rfl) T.n_abs (by decide +kernel) (qa_cons (q_var (pv 1)) qa_nil)) (qa_cons (q_int pe_int) qa_nil)))))))
 qss_nil)
 (qss_cons (qs_if (PW.pt (qt_or (qt_not (qt_val (q_cb (isi_own T.cl_Decimal T.ow_Decimal) (c_isDec (K := K)) (by rfl) T.n_isinstance (by decide +kernel) (qa_cons (q_var (pv 1)) (qa_cons (q_ref (pe_gR (by rfl) T.g_Decimal)) qa_nil))))) (qt_or (qt_val (q_call G_is_nan (hr.mono (by decide)) (by rfl) T.g_is_nan k_is_nan b_is_nan (qa_cons (q_var (pv 0)) qa_nil))) (qt_or1 (qt_val (q_call G_is_nan (hr.mono (by decide)) (by rfl) T.g_is_nan k_is_nan b_is_nan (qa_cons (q_var (pv 1)) qa_nil)))))))
 (qss_one (qs_ret (q_bl pe_bl)))
 qss_nil)
 (qss_one (qs_ret (q_cmp op_eq r_eq (q_call G_order_of (hr.mono (by decide)) (by rfl) T.g_order_of k_order_of b_order_of (qa_cons (q_var (pv 0)) (qa_cons (q_var (pv 1)) qa_nil))) (q_int pe_int) (nomark _)))))))) (fun ds O Q h => ?_) (fun ds O Q h => ?_)) (okP (k := 5) F sc_Decimal___eq__ (fun cdv A outer s H E hr => PSs.nox ((qss_cons (qs_if (qt_val (q_call G2_is_integer (hr.mono (by decide)) (by rfl) T.g_is_integer k2_is_integer b2_is_integer (qa_cons (q_var (pv 1)) qa_nil)))
 (qss_one (qs_set (ps_set (i := 1) sc_Decimal___eq__.nd rfl (Or.inl rfl) (q_mkDec T.m_Decimal G_Decimal___init__ (hr.mono (by decide)) (by rfl) T.g_Decimal b_Decimal___init__ (qa_cons (q_ct int_1 c_int (by rfl) T.n_int (by decide +kernel) (qa_cons (q_cmp op_lt r_B (q_var (pv 1)) (q_int pe_int) (nomark _)) qa_nil)) (qa_cons (q_cb abs_i c_abs (by rfl) T.n_abs (by decide +kernel) (qa_cons (q_var (pv 1)) qa_nil)) (qa_cons (q_int pe_int) qa_nil)))))))
 qss_nil)
 (qss_cons (qs_if (PW.pt (qt_or (qt_not (qt_val (q_cb (isi_own T.cl_Decimal T.ow_Decimal) (c_isDec (K := K)) (by rfl) T.n_isinstance (by decide +kernel) (qa_cons (q_var (pv 1)) (qa_cons (q_ref (pe_gR (by rfl) T.g_Decimal)) qa_nil))))) (qt_or (qt_val (q_call G_is_nan (hr.mono (by decide)) (by rfl) T.g_is_nan k_is_nan b_is_nan (qa_cons (q_var (pv 0)) qa_nil))) (qt_or1 (qt_val (q_call G_is_nan (hr.mono (by decide)) (by rfl) T.g_is_nan k_is_nan b_is_nan (qa_cons (q_var (pv 1)) qa_nil)))))))
 (qss_one (qs_ret (q_bl pe_bl)))
 qss_nil)
 (qss_one (qs_ret (q_cmp op_eq r_eq (q_call G_order_of (hr.mono (by decide)) (by rfl) T.g_order_of k_order_of b_order_of (qa_cons (q_var (pv 0)) (qa_cons (q_var (pv 1)) qa_nil))) (q_int pe_int) (nomark _)))))))) (fun ds O Q h => ?_) (fun ds O Q h => ?_)), F.bindsN (fun _ _ _ _ _ _ us hl => match us, hl with | [_, _], _ => rfl), F.kp⟩
  · obtain ⟨a, i, rfl, _⟩ := h
    rfl
  · obtain ⟨a, i, rfl, q, k⟩ := h
    walk_at "q"
    have e : (⟨if decide (i < 0) = true then 1 else 0, (i.natAbs : Int), .fin 0⟩ : Dc) = intD i := by
      unfold intD
      simp
    rw [e]
    refine ⟨q.ob, .inl ?_⟩
    unfold eqX at k
    cases na : a.e.isNan with
    | true =>
      rw [na, Bool.true_or] at k
      exact iteT k
    | false =>
      have ni : (intD i).e.isNan = false := rfl
      rw [na, ni, Bool.or_false, Bool.not_false, Bool.true_and] at k
      exact iteF ⟨⟨q.oa, q.ob, na, rfl, q.la, q.lb⟩, k⟩
  · obtain ⟨a, b, rfl, _⟩ := h
    rfl
  · obtain ⟨a, b, rfl, q, k⟩ := h
    walk_at "q"
    refine .inl ?_
    unfold eqX at k
    cases na : a.e.isNan with
    | true =>
      rw [na, Bool.true_or] at k
      exact iteT k
    | false =>
      cases nb : b.e.isNan with
      | true =>
        rw [na, nb, Bool.false_or] at k
        exact iteF (iteT k)
      | false =>
        rw [na, nb, Bool.or_false, Bool.not_false, Bool.true_and] at k
        exact iteF (iteF ⟨⟨q.oa, q.ob, na, nb, q.la, q.lb⟩, k⟩)
end

set_option hygiene false in
local macro_rules | `(tactic| walk_at "q") => `(tactic| simp (config := { maxSteps := 2000000 }) only [g_tens, g_count_digits, g_goes_up, g_rounded_parts, g_overflow, g_finish_zero, g_finish_cut, g_finish_parts, g_etiny, g_etop, g_infinity, g_plain_nan, gQ, g_is_integer, g_is_exponent, g_kept_digits, g_finish, g_nan_of, g_with_sign_sums, g_un, g_signal_of, g_check_between, optT_none, optT_some, dCFld, dCMeth, dInG, dNiG, dInGT, dNiGT, fSortD, fIsLT, fAll, dDcT, dDcL, vD, ex_n', ex_F', ex_N', g_with_one, g_outcome_of, g_is_operation, g_told, g_names_of, g_draw, g_one, g_well, dKw, fCtx, g_law_ten, g_law_parts, g_law_ways, g_law_rules, g_law_context, g_law_digits, g_law_number, dSl, dNoP, dPart, fSlL, fSlR, fSlS, fRepS, fIntS, g_law_is_near, g_law_is_over, g_law_most, g_law_is_cut, dCutS, fRepB, dCSet, dLcK, fInDct, fListD, g_clear_flags, g_flags, g_noted, g_settled, g_meth1, g_meth2, g_meth3, g_law, ite01_or, ite01_dec, g_law_wide_rules, g_law_far_number, g_invalid, g_sign_of_both, g_exact_product, g_bin, optDc_none, optDc_some, g_with_two, g_first_half, g_second_half, dSlK, fSlT, g_law_coefficient, g_law_pair, g_adjusted, g_worth, g_sum_parts, g_added, g_tri, g_law_far_pair, eUnl, g_law_sum, g_law_made, g_law_turned, g_law_three, gOr, g_names_ofL, dCTrp, g_set_traps, g_law_pair2, g_law_whole_right, dApp, eSub, g_law_madeX, g_law_special, g_law_any, g_law_quiet, g_law_is_due, g_law_product, g_law_fma_right, optQ_none, optQ_some, optX_none, optX_some, dLcRM, dLstW, fCatLM, dLcS, g_wellF, g_nan_ofT, g_law_tens, g_law_numberF, g_law_frame, g_law_near, g_law_ground, g_unF, g_law_raised, g_law_over, g_law_finished, g_law_nan, optN_none, optN_some, g_law_due59, g_law_things59, dDisp, dPairs, dGet2, fIxD, g_side_of, g_size_order, g_order_of, g_as_decimal, g_deq1, g_deq2, fEqO, fNeO, g_is_integer2, fIsDecInt, dCallL, dEither, dSeq, dNext, dCont, dBreak, dNever, dDrop, dRet, dRetN, dIfS, dAsg, dPar, dPar3, dAug, eName, eNil, eCons, eTup, dVar, dC, dOp, dUn, dCl, dTest, dAnd, dOr, dNot, dAndV, dOrV, dNotV, dIf, dChain, dNil, dCons, dTup, dLst, dLstM, dFld, dMeth, dForL, dForT, dForR, dForR2, dLcL, dLcT, dLcR, dYes, dFreeze, fI, fI0, fB, fNeg, fEq, fNe, fEqD, fNeD, fIsN, fNotN, fIn, fNi, fIxT, fIxL, fIxR, fIxM, fCatS, fCatL, fCatT, fRepL, fAbs, fMax, fMin, fInt, fStr, fLenS, fLenT, fLenL, fLenR, fListT, fListL, fTupL, fDivmod, fIs, fIsDec, fIsTup, fDec, fRul, isDecD, isRulD, exOf_int, exOf_d, fltD_non, fltD_bl, fltD_int, fltD_str, fltD_tup, fltD_lst, fltD_dec, fltD_rul, fltD_ref, isIntD_non, isIntD_bl, isIntD_int, isIntD_str, isIntD_tup, isIntD_lst, isIntD_dec, isIntD_rul, isIntD_ref, isNumD_non, isNumD_bl, isNumD_int, isNumD_str, isNumD_tup, isNumD_lst, isNumD_dec, isNumD_rul, isNumD_ref, isBlD_non, isBlD_bl, isBlD_int, isBlD_str, isBlD_tup, isBlD_lst, isBlD_dec, isBlD_rul, isBlD_ref, isStrD_non, isStrD_bl, isStrD_int, isStrD_str, isStrD_tup, isStrD_lst, isStrD_dec, isStrD_rul, isStrD_ref, isNon_non, isNon_bl, isNon_int, isNon_str, isNon_tup, isNon_lst, isNon_dec, isNon_rul, isNon_ref, numD_int, numD_bl, gSign_dec, gCoef_dec, gExp_dec, gPrec_rul, gRnd_rul, gEmin_rul, gEmax_rul, gClamp_rul, sc2_non_non, seq_non_non, eqF_non_non, sc2_non_bl, seq_non_bl, eqF_non_bl, sc2_non_int, seq_non_int, eqF_non_int, sc2_non_str, seq_non_str, eqF_non_str, sc2_bl_non, seq_bl_non, eqF_bl_non, sc2_bl_bl, seq_bl_bl, eqF_bl_bl, eqF_bl_int, sc2_bl_str, seq_bl_str, eqF_bl_str, sc2_int_non, seq_int_non, eqF_int_non, eqF_int_bl, sc2_int_int, seq_int_int, eqF_int_int, sc2_int_str, seq_int_str, eqF_int_str, sc2_str_non, seq_str_non, eqF_str_non, sc2_str_bl, seq_str_bl, eqF_str_bl, sc2_str_int, seq_str_int, eqF_str_int, sc2_str_str, seq_str_str, eqF_str_str, inD_nil, inD_cons, exd_fin, exd_inf, exd_qn, exd_sn, isFin_fin, isFin_inf, isFin_qn, isFin_sn, isInf_fin, isInf_inf, isInf_qn, isInf_sn, isNan_fin, isNan_inf, isNan_qn, isNan_sn, isSn_fin, isSn_inf, isSn_qn, isSn_sn, flt_ex, int_ex, sc_ex, ex_F, ex_n, ex_N, dstart, List.map_cons, List.map_nil, List.append_nil, List.cons_append, List.nil_append, List.length_cons, List.length_nil, List.replicate_succ, List.replicate_zero, List.getElem?_cons_zero, List.getElem?_cons_succ, List.set_cons_zero, List.set_cons_succ, List.all_cons, List.all_nil, Nat.add_one_sub_one, Nat.sub_self, Nat.reduceAdd, Nat.reduceSub, Nat.zero_add, Nat.sub_zero, at1_0', at2_0', at2_1', at3_0', at3_1', at3_2', at5_0', at5_1', at5_2', at5_3', at5_4', updO_same, updO_updO,
  Option.some.injEq, exists_eq_left', exists_eq_left, exists_eq, exists_eq', exists_and_left, exists_and_right, D.int.injEq, D.bl.injEq, D.str.injEq, D.ref.injEq, D.tup.injEq, D.lst.injEq, D.dec.injEq, D.rul.injEq, D.ty.injEq, MO.well.injEq, MO.lst.injEq, MO.ctx.injEq, List.cons.injEq, reduceCtorEq, Nat.reduceLeDiff, and_assoc, and_true, true_and, false_and, and_false, or_false, false_or, Bool.or_false, Bool.false_or, Bool.and_self, Bool.and_true, Bool.true_and, Bool.false_eq_true, if_true, if_false, ite_true, ite_false, Bool.not_true, Bool.not_false, reduceIte, decide_true, decide_false])
set_option hygiene false in
local macro_rules | `(tactic| walk_at "br") => `(tactic| repeat (first | refine ite_yes (by decide +kernel) ?_ | refine ite_no (by decide +kernel) ?_))
set_option hygiene false in
local macro_rules | `(tactic| walk_at "yes") => `(tactic| first | exact k | exact (congrArg (fun b => Q (D.bl b) O) (show _ = true by decide +kernel)).mpr k)

/-! ### a call of a local name that holds one of some defs -/
def dCallL (i : Nat) (f : Addr) (g : List D → Ow → DK → Prop) (q : DA) : DE := fun ρ O P => ρ[i]? = some (some (.ref f)) ∧ q ρ O fun ds O1 => g ds O1 P
theorem q_callL {X : Cx} {k i : Nat} {f : Addr} {fd : FuncData} {ps : List Str} {g : List D → Ow → DK → Prop} {x : Str} {p pos : Pos} {e : Expr} {es : List Expr} {q : DA} (F : FnOk X.prog X.w X.K X.mg X.base CX0 k f fd ps (spP X.K g)) (hr : Room k X.A) (hk : PySem.W.keepIn X.K (.ref f) = true) (hb : Binds X.K fd ps [])
    (ha : PA X (e :: es) (tA X.K q)) (hN : X.N[i]? = some x := by rfl) (hv : Vis X.env.scope x := by first | exact Or.inl rfl | exact Or.inr (Or.inl rfl) | exact Or.inr (Or.inr rfl)) (hdb : (x == ("__debug__" : Str)) = false := by decide) (hcd : (x == ("__classdict__" : Str)) = false := by decide)
    (he : starEach (e :: es) X.env = (false, eval e X.env) :: starEach es X.env := by rfl) (hpl : (backTo pos (starEach es X.env)).any (·.1) = false := by rfl) :
    PE X (.Call (.Name x p) (e :: es) [] pos) (tD X.K (dCallL i f g q)) := PE.imp (pe_callL (i := i) (f := f) (E := E0) F hr hN hv hk hb .nil (fun _ _ _ _ _ _ _ z => False.elim z) ha hdb hcd he hpl) fun σ H Q x => by
  obtain ⟨ρ, F, O, P, er, ho, ⟨h1, hp⟩, k⟩ := x
  obtain ⟨v, hv, r⟩ := er.2 i _ h1
  cases r
  refine ⟨hv, ρ, F, O, _, er, ho, hp, fun ds O1 vs F1 H1 q1 s1 r1 => ?_⟩
  exact ⟨ds, F1, O1, P, by rw [List.append_nil]; exact r1, s1.hold, q1, k.st s1⟩
def dEither (p q : DE) : DE := fun ρ O P => p ρ O P ∨ q ρ O P
theorem q_either {X : Cx} {e : Expr} {p q : DE} (h1 : PE X e (tD X.K p)) (h2 : PE X e (tD X.K q)) : PE X e (tD X.K (dEither p q)) := ⟨fun pins s σ H Q I h => by
  obtain ⟨ρ, F, O, P, er, ho, h, k⟩ := h
  rcases h with h | h
  · exact h1.run pins s σ H Q I ⟨ρ, F, O, P, er, ho, h, k⟩
  · exact h2.run pins s σ H Q I ⟨ρ, F, O, P, er, ho, h, k⟩⟩

set_option hygiene false in
local macro_rules | `(tactic| walk_at "q") => `(tactic| simp (config := { maxSteps := 2000000 }) only [g_tens, g_count_digits, g_goes_up, g_rounded_parts, g_overflow, g_finish_zero, g_finish_cut, g_finish_parts, g_etiny, g_etop, g_infinity, g_plain_nan, gQ, g_is_integer, g_is_exponent, g_kept_digits, g_finish, g_nan_of, g_with_sign_sums, g_un, g_signal_of, g_check_between, optT_none, optT_some, dCFld, dCMeth, dInG, dNiG, dInGT, dNiGT, fSortD, fIsLT, fAll, dDcT, dDcL, vD, ex_n', ex_F', ex_N', g_with_one, g_outcome_of, g_is_operation, g_told, g_names_of, g_draw, g_one, g_well, dKw, fCtx, g_law_ten, g_law_parts, g_law_ways, g_law_rules, g_law_context, g_law_digits, g_law_number, dSl, dNoP, dPart, fSlL, fSlR, fSlS, fRepS, fIntS, g_law_is_near, g_law_is_over, g_law_most, g_law_is_cut, dCutS, fRepB, dCSet, dLcK, fInDct, fListD, g_clear_flags, g_flags, g_noted, g_settled, g_meth1, g_meth2, g_meth3, g_law, ite01_or, ite01_dec, g_law_wide_rules, g_law_far_number, g_invalid, g_sign_of_both, g_exact_product, g_bin, optDc_none, optDc_some, g_with_two, g_first_half, g_second_half, dSlK, fSlT, g_law_coefficient, g_law_pair, g_adjusted, g_worth, g_sum_parts, g_added, g_tri, g_law_far_pair, eUnl, g_law_sum, g_law_made, g_law_turned, g_law_three, gOr, g_names_ofL, dCTrp, g_set_traps, g_law_pair2, g_law_whole_right, dApp, eSub, g_law_madeX, g_law_special, g_law_any, g_law_quiet, g_law_is_due, g_law_product, g_law_fma_right, optQ_none, optQ_some, optX_none, optX_some, dLcRM, dLstW, fCatLM, dLcS, g_wellF, g_nan_ofT, g_law_tens, g_law_numberF, g_law_frame, g_law_near, g_law_ground, g_unF, g_law_raised, g_law_over, g_law_finished, g_law_nan, optN_none, optN_some, g_law_due59, g_law_things59, dDisp, dPairs, dGet2, fIxD, g_side_of, g_size_order, g_order_of, g_as_decimal, g_deq1, g_deq2, fEqO, fNeO, g_is_integer2, fIsDecInt, dCallL, dEither, g_pmI, g_finI, g_gcdI, g_ratI, g_cutI, g_sgnI, g_intI, dSeq, dNext, dCont, dBreak, dNever, dDrop, dRet, dRetN, dIfS, dAsg, dPar, dPar3, dAug, eName, eNil, eCons, eTup, dVar, dC, dOp, dUn, dCl, dTest, dAnd, dOr, dNot, dAndV, dOrV, dNotV, dIf, dChain, dNil, dCons, dTup, dLst, dLstM, dFld, dMeth, dForL, dForT, dForR, dForR2, dLcL, dLcT, dLcR, dYes, dFreeze, fI, fI0, fB, fNeg, fEq, fNe, fEqD, fNeD, fIsN, fNotN, fIn, fNi, fIxT, fIxL, fIxR, fIxM, fCatS, fCatL, fCatT, fRepL, fAbs, fMax, fMin, fInt, fStr, fLenS, fLenT, fLenL, fLenR, fListT, fListL, fTupL, fDivmod, fIs, fIsDec, fIsTup, fDec, fRul, isDecD, isRulD, exOf_int, exOf_d, fltD_non, fltD_bl, fltD_int, fltD_str, fltD_tup, fltD_lst, fltD_dec, fltD_rul, fltD_ref, isIntD_non, isIntD_bl, isIntD_int, isIntD_str, isIntD_tup, isIntD_lst, isIntD_dec, isIntD_rul, isIntD_ref, isNumD_non, isNumD_bl, isNumD_int, isNumD_str, isNumD_tup, isNumD_lst, isNumD_dec, isNumD_rul, isNumD_ref, isBlD_non, isBlD_bl, isBlD_int, isBlD_str, isBlD_tup, isBlD_lst, isBlD_dec, isBlD_rul, isBlD_ref, isStrD_non, isStrD_bl, isStrD_int, isStrD_str, isStrD_tup, isStrD_lst, isStrD_dec, isStrD_rul, isStrD_ref, isNon_non, isNon_bl, isNon_int, isNon_str, isNon_tup, isNon_lst, isNon_dec, isNon_rul, isNon_ref, numD_int, numD_bl, gSign_dec, gCoef_dec, gExp_dec, gPrec_rul, gRnd_rul, gEmin_rul, gEmax_rul, gClamp_rul, sc2_non_non, seq_non_non, eqF_non_non, sc2_non_bl, seq_non_bl, eqF_non_bl, sc2_non_int, seq_non_int, eqF_non_int, sc2_non_str, seq_non_str, eqF_non_str, sc2_bl_non, seq_bl_non, eqF_bl_non, sc2_bl_bl, seq_bl_bl, eqF_bl_bl, eqF_bl_int, sc2_bl_str, seq_bl_str, eqF_bl_str, sc2_int_non, seq_int_non, eqF_int_non, eqF_int_bl, sc2_int_int, seq_int_int, eqF_int_int, sc2_int_str, seq_int_str, eqF_int_str, sc2_str_non, seq_str_non, eqF_str_non, sc2_str_bl, seq_str_bl, eqF_str_bl, sc2_str_int, seq_str_int, eqF_str_int, sc2_str_str, seq_str_str, eqF_str_str, inD_nil, inD_cons, exd_fin, exd_inf, exd_qn, exd_sn, isFin_fin, isFin_inf, isFin_qn, isFin_sn, isInf_fin, isInf_inf, isInf_qn, isInf_sn, isNan_fin, isNan_inf, isNan_qn, isNan_sn, isSn_fin, isSn_inf, isSn_qn, isSn_sn, flt_ex, int_ex, sc_ex, ex_F, ex_n, ex_N, dstart, List.map_cons, List.map_nil, List.append_nil, List.cons_append, List.nil_append, List.length_cons, List.length_nil, List.replicate_succ, List.replicate_zero, List.getElem?_cons_zero, List.getElem?_cons_succ, List.set_cons_zero, List.set_cons_succ, List.all_cons, List.all_nil, Nat.add_one_sub_one, Nat.sub_self, Nat.reduceAdd, Nat.reduceSub, Nat.zero_add, Nat.sub_zero, at1_0', at2_0', at2_1', at3_0', at3_1', at3_2', at5_0', at5_1', at5_2', at5_3', at5_4', updO_same, updO_updO,
  Option.some.injEq, exists_eq_left', exists_eq_left, exists_eq, exists_eq', exists_and_left, exists_and_right, D.int.injEq, D.bl.injEq, D.str.injEq, D.ref.injEq, D.tup.injEq, D.lst.injEq, D.dec.injEq, D.rul.injEq, D.ty.injEq, MO.well.injEq, MO.lst.injEq, MO.ctx.injEq, List.cons.injEq, reduceCtorEq, Nat.reduceLeDiff, and_assoc, and_true, true_and, false_and, and_false, or_false, false_or, Bool.or_false, Bool.false_or, Bool.and_self, Bool.and_true, Bool.true_and, Bool.false_eq_true, if_true, if_false, ite_true, ite_false, Bool.not_true, Bool.not_false, reduceIte, decide_true, decide_false])
set_option hygiene false in
local macro_rules | `(tactic| walk_at "br") => `(tactic| repeat (first | refine ite_yes (by decide +kernel) ?_ | refine ite_no (by decide +kernel) ?_))
set_option hygiene false in
local macro_rules | `(tactic| walk_at "yes") => `(tactic| first | exact k | exact (congrArg (fun b => Q (D.bl b) O) (show _ = true by decide +kernel)).mpr k)

/-! ### integers of Decimals -/
theorem pow_emod81 (x m : Int) : ∀ n : Nat, (x % m) ^ n % m = x ^ n % m
  | 0 => by rw [Int.pow_zero, Int.pow_zero]
  | n + 1 => by
    rw [Int.pow_succ, Int.pow_succ, Int.mul_emod ((x % m) ^ n) (x % m) m, pow_emod81 x m n, Int.emod_emod, ← Int.mul_emod]
theorem mul_emod81 (f y m : Int) : f * (y % m) % m = f * y % m := by
  rw [Int.mul_emod f (y % m), Int.emod_emod, ← Int.mul_emod]
theorem emod_mul81 (f y m : Int) : (f % m) * y % m = f * y % m := by
  rw [Int.mul_comm, mul_emod81, Int.mul_comm]
theorem sq_pow81 (y m f : Int) (h : Nat) : f * ((y * y) % m) ^ h % m = f * y ^ (2 * h) % m := by
  rw [← mul_emod81, pow_emod81, mul_emod81]
  have e : y ^ (2 * h) = (y * y) ^ h := by
    rw [Int.pow_mul, show y ^ 2 = y * y by rw [Int.pow_succ, Int.pow_succ, Int.pow_zero, Int.one_mul]]
  rw [e]
theorem pm_even (f y m : Int) (j : Nat) (h : j % 2 = 0) : f * ((y * y) % m) ^ (j / 2) % m = f * y ^ j % m := by
  rw [sq_pow81, show 2 * (j / 2) = j by omega]
theorem pm_odd (f y m : Int) (j : Nat) (h : j % 2 = 1) : (f * y % m) * ((y * y) % m) ^ (j / 2) % m = f * y ^ j % m := by
  rw [sq_pow81, emod_mul81, Int.mul_assoc]
  have e : y ^ j = y * y ^ (2 * (j / 2)) := by
    rw [Int.mul_comm, ← Int.pow_succ]
    congr 1
    omega
  rw [e]
/-- the state of the law's loop -/
structure PlSt (x n m : Int) (j : Nat) (y f : Int) : Prop where
  y0 : 0 ≤ y
  y1 : y < m
  f0 : 0 ≤ f
  f1 : f < m ∨ f = 1
  v : f * y ^ j % m = x ^ n.toNat % m
theorem PlSt.go {x n m : Int} {j : Nat} {y f : Int} (h0 : 0 < m) (h : PlSt x n m j y f) : PlSt x n m (j / 2) (y * y % m) (if j % 2 = 1 then f * y % m else f) := by
  refine ⟨Int.emod_nonneg _ (Int.ne_of_gt h0), Int.emod_lt_of_pos _ h0, ?_, ?_, ?_⟩
  · split
    · exact Int.emod_nonneg _ (Int.ne_of_gt h0)
    · exact h.f0
  · split
    · exact .inl (Int.emod_lt_of_pos _ h0)
    · exact h.f1
  · rw [← h.v]
    split
    · rename_i e
      exact pm_odd _ _ _ _ e
    · rename_i e
      exact pm_even _ _ _ _ (by omega)
theorem PlSt.start {x n m : Int} (h : 0 < m) (x0 : 0 ≤ x) (x1 : x < m) : PlSt x n m n.toNat x 1 := by
  refine ⟨x0, x1, by decide, .inr rfl, ?_⟩
  rw [Int.one_mul]
theorem PlSt.done {x n m y f : Int} (h : PlSt x n m 0 y f) : f % m = x ^ n.toNat % m := by
  rw [← h.v, Int.pow_zero, Int.mul_one]
/-- the rest of a power, as the loop makes it -/
def pmI (x n m : Int) : Int := if n = 0 then 1 else x ^ n.toNat % m
/-- a finite number -/
structure FI (a : Dc) : Prop where
  ok : a.Ok
  fin : ∃ n, a.e = .fin n
  n : nd a.c ≤ 2000
def ratI (s c e : Int) : Int × Int :=
  if c = 0 then (0, 1) else (if s = 1 then -(c * 10 ^ (max e 0).toNat) / (Nat.gcd (c * 10 ^ (max e 0).toNat).toNat ((10 : Int) ^ (max (-e) 0).toNat).toNat : Nat) else c * 10 ^ (max e 0).toNat / (Nat.gcd (c * 10 ^ (max e 0).toNat).toNat ((10 : Int) ^ (max (-e) 0).toNat).toNat : Nat), 10 ^ (max (-e) 0).toNat / (Nat.gcd (c * 10 ^ (max e 0).toNat).toNat ((10 : Int) ^ (max (-e) 0).toNat).toNat : Nat))
/-- how much is cut off: nothing, less than a half, a half, more -/
def resI (c u : Int) : Int := b2i (decide (0 < c % u)) + b2i (decide (u ≤ 2 * (c % u))) * b2i (decide (0 < c % u)) + b2i (decide (u < 2 * (c % u)))
def cutI (c e : Int) : Int × Int := if c = 0 then (0, 0) else if 0 ≤ e then (c * 10 ^ e.toNat, 0) else if nd c < -e then (0, 1) else (c / 10 ^ (-e).toNat, resI c (10 ^ (-e).toNat))
def sgnI (s w : Int) : Int := if s = 1 then -w else w
def floI (s c e : Int) : Int := sgnI s (cutI c e).1 - b2i (decide (0 < (cutI c e).2) && decide (s = 1))
def ceiI (s c e : Int) : Int := sgnI s (cutI c e).1 + b2i (decide (0 < (cutI c e).2) && decide (s = 0))
def neaI (s c e : Int) : Int := sgnI s ((cutI c e).1 + b2i (decide ((cutI c e).2 = 3) || (decide ((cutI c e).2 = 2) && decide ((cutI c e).1 % 2 = 1))))
def g_pmI : List D → Ow → DK → Prop := fun ds O P => ∃ x n m, ds = [.int x, .int n, .int m] ∧ 0 ≤ x ∧ x < m ∧ 1 < m ∧ m < 10 ^ 100 ∧ 0 ≤ n ∧ P (.int (x ^ n.toNat % m)) O
def PR : Int := 2305843009213693951
def hashB (e : Int) : Int := if 0 ≤ e then 10 else 10 ^ (PR - 2).toNat % PR
def hash1 (s c e : Int) : Int := if s = 1 then -(c % PR * (hashB e ^ (e.natAbs : Int).toNat % PR) % PR) else c % PR * (hashB e ^ (e.natAbs : Int).toNat % PR) % PR
def hashI (s c e : Int) : Int := if hash1 s c e = -1 then -2 else hash1 s c e
def g_finI : List D → Ow → DK → Prop := fun ds O P => ∃ a n, ds = [.dec a] ∧ a.e = .fin n ∧ P (.dec a) O
def g_gcdI : List D → Ow → DK → Prop := fun ds O P => ∃ x y : Nat, ds = [.int (x : Int), .int (y : Int)] ∧ P (.int (Nat.gcd x y : Nat)) O
def g_cutI : List D → Ow → DK → Prop := fun ds O P => ∃ s c e, ds = [.dec ⟨s, c, .fin e⟩] ∧ 0 ≤ c ∧ nd c ≤ 2000 ∧ (c = 0 ∨ e ≤ 3000) ∧ P (.tup [.int (cutI c e).1, .int (cutI c e).2]) O
def g_sgnI : List D → Ow → DK → Prop := fun ds O P => ∃ a w, ds = [.dec a, .int w] ∧ P (.int (sgnI a.s w)) O
def g_intI (f : Int → Int → Int → Int) : List D → Ow → DK → Prop := fun ds O P => ∃ s c e, ds = [.dec ⟨s, c, .fin e⟩] ∧ 0 ≤ c ∧ nd c ≤ 2000 ∧ (c = 0 ∨ e ≤ 3000) ∧ P (.int (f s c e)) O
def g_ratI : List D → Ow → DK → Prop := fun ds O P => ∃ s c e, ds = [.dec ⟨s, c, .fin e⟩] ∧ 0 ≤ c ∧ nd c ≤ 2000 ∧ (c = 0 ∨ e ≤ 3000 ∧ -3100 ≤ e) ∧ P (.tup [.int (ratI s c e).1, .int (ratI s c e).2]) O
section
variable {P : Program} {w : World} {K : PySem.W.Frag} {mg : Str → Option Value} {base : Heap}
theorem ok_power_modulo (T : Tx K mg) : OkP P w K mg base 1 ("power_modulo", none) ["base", "many", "modulo"] g_pmI := by
  obtain ⟨fd, F⟩ := T.d_power_modulo
  refine ⟨fd, okP (k := 0) F sc_power_modulo (fun cdv A outer s H E hr => PSs.nox ((qss_cons (qs_set (ps_set (i := 3) sc_power_modulo.nd rfl (Or.inl rfl) (q_int pe_int)))
 (qss_cons (qs_while (ps_while PassesOwn.never (qt_cmp op_gt r_B (q_var (pv 1)) (q_int pe_int) (nomark _))
 (qss_cons (qs_if (qt_cmp op_eq r_eq (q_op op_mod r_I (q_var (pv 1)) (q_int pe_int)) (q_int pe_int) (nomark _))
 (qss_one (qs_set (ps_set (i := 3) sc_power_modulo.nd rfl (Or.inl rfl) (q_op op_mod r_I (q_op op_mulW r_I (q_var (pv 3)) (q_var (pv 0))) (q_var (pv 2))))))
 qss_nil)
 (qss_one (qs_par (ps_par (i := 0) (j := 1) (by rfl) sc_power_modulo.nd rfl rfl (by decide) rfl rfl (qa_cons (q_op op_mod r_I (q_op op_mulW r_I (q_var (pv 0)) (q_var (pv 0))) (q_var (pv 2))) (qa_cons (q_op op_fdivW r_I (q_var (pv 1)) (q_int pe_int)) qa_nil)) (by rfl)))))))
 (qss_one (qs_ret (q_var (pv 3)))))))) (fun ds O Q h => ?_) (fun ds O Q h => ?_), F.bindsN (fun _ _ _ _ _ _ us hl => match us, hl with | [_, _, _], _ => rfl), F.kp⟩
  · obtain ⟨x, n, m, rfl, _⟩ := h
    rfl
  · obtain ⟨x, n, m, rfl, x0, x1, m0, m1, n0, k⟩ := h
    walk_at "q"
    refine ⟨fun N ρ' O' => O = O' ∧ ∃ y f, ρ' = [some (.int y), some (.int (N : Int)), some (.int m), some (.int f)] ∧ PlSt x n m N y f, ⟨n.toNat, rfl, x, 1, by rw [Int.toNat_of_nonneg n0], .start (by omega) x0 x1⟩, ?_⟩
    rintro N ρ' O' ⟨rfl, y, f, rfl, st⟩
    walk_at "q"
    have hm : 0 < m := by omega
    refine iteD (fun hpos => ?_) (fun hz => ?_)
    · have hg := st.go hm
      have by_ : y.natAbs < 10 ^ 100 := natAbs_lt st.y0 (Int.lt_trans st.y1 m1)
      have bf : f.natAbs < 10 ^ 100 := natAbs_lt st.f0 (by
        rcases st.f1 with h | h
        · exact Int.lt_trans h m1
        · rw [h]
          decide +kernel)
      have my : CMulW y y := mulW_of by_ by_ (by decide)
      have mf : CMulW f y := mulW_of bf by_ (by decide)
      have dn : CDivW (N : Int) 2 := divW_small (by decide) (by decide)
      refine ⟨by decide, iteD (fun h => ⟨mf, hm, my, hm, dn, N / 2, by omega, by omega, ?_⟩) (fun h => ⟨my, hm, dn, N / 2, by omega, by omega, ?_⟩)⟩
      · rw [if_pos (by omega)] at hg
        exact hg
      · rw [if_neg (by omega)] at hg
        exact hg
    · have hN : N = 0 := by omega
      subst hN
      have v := st.done
      have f2 : f < m := by
        rcases st.f1 with h | h
        · exact h
        · omega
      rw [Int.emod_eq_of_lt st.f0 f2] at v
      rw [v]
      exact k
theorem ok_number_hash (T : Tx K mg) : OkP P w K mg base 7 ("number_hash", none) ["a"] (g_intI hashI) := by
  obtain ⟨fd_decimal_of, G_decimal_of, b_decimal_of, k_decimal_of⟩ := ok_decimal_of (P := P) (w := w) (base := base) T
  obtain ⟨fd_is_nan, G_is_nan, b_is_nan, k_is_nan⟩ := ok_is_nan (P := P) (w := w) (base := base) T
  obtain ⟨fd_is_infinite, G_is_infinite, b_is_infinite, k_is_infinite⟩ := ok_is_infinite (P := P) (w := w) (base := base) T
  obtain ⟨fd_power_modulo, G_power_modulo, b_power_modulo, k_power_modulo⟩ := ok_power_modulo (P := P) (w := w) (base := base) T
  obtain ⟨fd, F⟩ := T.d_number_hash
  refine ⟨fd, okP (k := 6) F sc_number_hash (fun cdv A outer s H E hr => PSs.nox ((qss_cons (qs_set (ps_set (i := 0) sc_number_hash.nd rfl (Or.inl rfl) (q_call G_decimal_of (hr.mono (by decide)) (by rfl) T.g_decimal_of k_decimal_of b_decimal_of (qa_cons (q_var (pv 0)) qa_nil))))
 (qss_cons (qs_if (qt_val (q_call G_is_nan (hr.mono (by decide)) (by rfl) T.g_is_nan k_is_nan b_is_nan (qa_cons (q_var (pv 0)) qa_nil)))
 (qss_one qs_never)
 qss_nil)
 (qss_cons (qs_if (qt_val (q_call G_is_infinite (hr.mono (by decide)) (by rfl) T.g_is_infinite k_is_infinite b_is_infinite (qa_cons (q_var (pv 0)) qa_nil)))
 (qss_one qs_never)
 qss_nil)
 (qss_cons (qs_set (ps_set (i := 1) sc_number_hash.nd rfl (Or.inl rfl) (q_ifExp (qt_cmp op_ge r_B (q_fld f_exp T.cl_Decimal T.no_Decimal_exponent (q_var (pv 0))) (q_int pe_int) (nomark _)) (q_int pe_int) (q_call G_power_modulo (hr.mono (by decide)) (by rfl) T.g_power_modulo k_power_modulo b_power_modulo (qa_cons (q_int pe_int) (qa_cons (q_op op_sub r_I0 (q_int (pe_gI (by rfl) T.c_PRIME)) (q_int pe_int)) (qa_cons (q_int (pe_gI (by rfl) T.c_PRIME)) qa_nil)))))))
 (qss_cons (qs_set (ps_set (i := 2) sc_number_hash.nd rfl (Or.inl rfl) (q_op op_mod r_I (q_op op_mulW r_I (q_op op_mod r_I (q_fld f_coef T.cl_Decimal T.no_Decimal_coefficient (q_var (pv 0))) (q_int (pe_gI (by rfl) T.c_PRIME))) (q_call G_power_modulo (hr.mono (by decide)) (by rfl) T.g_power_modulo k_power_modulo b_power_modulo (qa_cons (q_var (pv 1)) (qa_cons (q_cb abs_i c_abs (by rfl) T.n_abs (by decide +kernel) (qa_cons (q_fld f_exp T.cl_Decimal T.no_Decimal_exponent (q_var (pv 0))) qa_nil)) (qa_cons (q_int (pe_gI (by rfl) T.c_PRIME)) qa_nil))))) (q_int (pe_gI (by rfl) T.c_PRIME)))))
 (qss_cons (qs_set (ps_set (i := 2) sc_number_hash.nd rfl (Or.inl rfl) (q_ifExp (qt_cmp op_eq r_eq (q_fld f_sign T.cl_Decimal T.no_Decimal_sign (q_var (pv 0))) (q_int pe_int) (nomark _)) (q_un un_neg r_neg (q_var (pv 2))) (q_var (pv 2)))))
 (qss_one (qs_ret (q_ifExp (qt_cmp op_eq r_eq (q_var (pv 2)) (q_un un_neg r_neg (q_int pe_int)) (nomark _)) (q_un un_neg r_neg (q_int pe_int)) (q_var (pv 2))))))))))))) (fun ds O Q h => ?_) (fun ds O Q h => ?_), F.bindsN (fun _ _ _ _ _ _ us hl => match us, hl with | [_], _ => rfl), F.kp⟩
  · obtain ⟨s, c, e, rfl, _⟩ := h
    rfl
  · obtain ⟨s, c, e, rfl, c0, cn, e1, k⟩ := h
    walk_at "q"
    unfold hashI hash1 hashB PR at k
    have cw : ∀ x y : Int, 0 ≤ x → x < 2305843009213693951 → 0 ≤ y → y < 2305843009213693951 → CMulW x y := fun x y x0 x1 y0 y1 => mulW_of (m := 20) (n := 20) (by omega) (by omega) (by decide)
    have md : ∀ x : Int, 0 ≤ x % 2305843009213693951 ∧ x % 2305843009213693951 < 2305843009213693951 := fun x => ⟨Int.emod_nonneg _ (by decide), Int.emod_lt_of_pos _ (by decide)⟩
    have hB := md (10 ^ (2305843009213693951 - 2 : Int).toNat)
    generalize (10 : Int) ^ (2305843009213693951 - 2 : Int).toNat % 2305843009213693951 = B at k hB ⊢
    have m100 : (2305843009213693951 : Int) < 10 ^ 100 := by decide +kernel
    have fin : ∀ (x : Int), Q (D.int (if (if s = 1 then -(c % 2305843009213693951 * x % 2305843009213693951) else c % 2305843009213693951 * x % 2305843009213693951) = -1 then -2 else if s = 1 then -(c % 2305843009213693951 * x % 2305843009213693951) else c % 2305843009213693951 * x % 2305843009213693951)) O → (if decide (s = 1) = true then (if decide (-(c % 2305843009213693951 * x % 2305843009213693951) = -1) = true then Q (D.int (-2)) O else Q (D.int (-(c % 2305843009213693951 * x % 2305843009213693951))) O) else if decide (c % 2305843009213693951 * x % 2305843009213693951 = -1) = true then Q (D.int (-2)) O else Q (D.int (c % 2305843009213693951 * x % 2305843009213693951)) O) := fun x q => by
      generalize c % 2305843009213693951 * x % 2305843009213693951 = z at q ⊢
      refine iteD (fun hs => ?_) fun hs => ?_
      · rw [if_pos hs] at q
        refine iteD (fun h => ?_) fun h => ?_
        · rw [if_pos h] at q
          exact q
        · rw [if_neg h] at q
          exact q
      · rw [if_neg hs] at q
        refine iteD (fun h => ?_) fun h => ?_
        · rw [if_pos h] at q
          exact q
        · rw [if_neg h] at q
          exact q
    refine ⟨_, _, rfl, .dec _, _, rfl, iteF ⟨_, rfl, iteF ⟨_, rfl, e, rfl, iteD (fun h => ?_) fun h => ?_⟩⟩⟩
    · rw [if_pos h] at k
      exact ⟨_, rfl, c, rfl, by decide, _, rfl, e, rfl, by decide, by decide, by decide, m100, Int.natCast_nonneg _, cw _ _ (md _).1 (md _).2 (md _).1 (md _).2, by decide, _, rfl, rfl, fin _ k⟩
    · rw [if_neg h] at k
      exact ⟨by decide, by decide, by decide, m100, by decide, _, rfl, c, rfl, by decide, _, rfl, e, rfl, hB.1, hB.2, by decide, m100, Int.natCast_nonneg _, cw _ _ (md _).1 (md _).2 (md _).1 (md _).2, by decide, _, rfl, rfl, fin _ k⟩
theorem ok_finite_of (T : Tx K mg) : OkP P w K mg base 6 ("finite_of", none) ["a"] g_finI := by
  obtain ⟨fd_decimal_of, G_decimal_of, b_decimal_of, k_decimal_of⟩ := ok_decimal_of (P := P) (w := w) (base := base) T
  obtain ⟨fd_is_nan, G_is_nan, b_is_nan, k_is_nan⟩ := ok_is_nan (P := P) (w := w) (base := base) T
  obtain ⟨fd_is_infinite, G_is_infinite, b_is_infinite, k_is_infinite⟩ := ok_is_infinite (P := P) (w := w) (base := base) T
  obtain ⟨fd, F⟩ := T.d_finite_of
  refine ⟨fd, okP (k := 5) F sc_finite_of (fun cdv A outer s H E hr => PSs.nox ((qss_cons (qs_set (ps_set (i := 0) sc_finite_of.nd rfl (Or.inl rfl) (q_call G_decimal_of (hr.mono (by decide)) (by rfl) T.g_decimal_of k_decimal_of b_decimal_of (qa_cons (q_var (pv 0)) qa_nil))))
 (qss_cons (qs_if (qt_val (q_call G_is_nan (hr.mono (by decide)) (by rfl) T.g_is_nan k_is_nan b_is_nan (qa_cons (q_var (pv 0)) qa_nil)))
 (qss_one qs_never)
 qss_nil)
 (qss_cons (qs_if (qt_val (q_call G_is_infinite (hr.mono (by decide)) (by rfl) T.g_is_infinite k_is_infinite b_is_infinite (qa_cons (q_var (pv 0)) qa_nil)))
 (qss_one qs_never)
 qss_nil)
 (qss_one (qs_ret (q_var (pv 0))))))))) (fun ds O Q h => ?_) (fun ds O Q h => ?_), F.bindsN (fun _ _ _ _ _ _ us hl => match us, hl with | [_], _ => rfl), F.kp⟩
  · obtain ⟨a, n, rfl, _⟩ := h
    rfl
  · obtain ⟨a, n, rfl, he, k⟩ := h
    walk_at "q"
    refine ⟨_, a, rfl, .dec a, a, rfl, ?_⟩
    rw [he]
    exact iteF ⟨a, rfl, by rw [he]; exact iteF k⟩
theorem ok_common_factor (T : Tx K mg) : OkP P w K mg base 1 ("common_factor", none) ["one", "other"] g_gcdI := by
  obtain ⟨fd, F⟩ := T.d_common_factor
  refine ⟨fd, okP (k := 0) F sc_common_factor (fun cdv A outer s H E hr => PSs.nox ((qss_cons (qs_while (ps_while PassesOwn.never (qt_cmp op_gt r_B (q_var (pv 1)) (q_int pe_int) (nomark _))
 (qss_one (qs_par (ps_par (i := 0) (j := 1) (by rfl) sc_common_factor.nd rfl rfl (by decide) rfl rfl (qa_cons (q_var (pv 1)) (qa_cons (q_op op_mod r_I (q_var (pv 0)) (q_var (pv 1))) qa_nil)) (by rfl))))))
 (qss_one (qs_ret (q_var (pv 0))))))) (fun ds O Q h => ?_) (fun ds O Q h => ?_), F.bindsN (fun _ _ _ _ _ _ us hl => match us, hl with | [_, _], _ => rfl), F.kp⟩
  · obtain ⟨x, y, rfl, _⟩ := h
    rfl
  · obtain ⟨x, y, rfl, k⟩ := h
    walk_at "q"
    refine ⟨fun m ρ' O' => O = O' ∧ ∃ a : Nat, ρ' = [some (.int (a : Int)), some (.int (m : Int))] ∧ Nat.gcd a m = Nat.gcd x y, ⟨y, rfl, x, rfl, rfl⟩, ?_⟩
    rintro m ρ' O' ⟨rfl, a, rfl, hg⟩
    walk_at "q"
    refine iteD (fun hpos => ?_) (fun hz => ?_)
    · have hm : 0 < m := by omega
      refine ⟨by omega, a % m, Nat.mod_lt _ hm, m, rfl, (Int.natCast_emod _ _).symm, ?_⟩
      rw [← hg, Nat.gcd_comm a m, Nat.gcd_rec m a, Nat.gcd_comm]
    · have hm : m = 0 := by omega
      subst hm
      rw [Nat.gcd_zero_right] at hg
      rw [hg]
      exact k
theorem ok_ratio (T : Tx K mg) : OkP P w K mg base 7 ("ratio", none) ["a"] g_ratI := by
  obtain ⟨fd_finite_of, G_finite_of, b_finite_of, k_finite_of⟩ := ok_finite_of (P := P) (w := w) (base := base) T
  obtain ⟨fd_tens, G_tens, b_tens, k_tens⟩ := ok_tens (P := P) (w := w) (base := base) T
  obtain ⟨fd_common_factor, G_common_factor, b_common_factor, k_common_factor⟩ := ok_common_factor (P := P) (w := w) (base := base) T
  obtain ⟨fd, F⟩ := T.d_ratio
  refine ⟨fd, okP (k := 6) F sc_ratio (fun cdv A outer s H E hr => PSs.nox ((qss_cons (qs_set (ps_set (i := 0) sc_ratio.nd rfl (Or.inl rfl) (q_call G_finite_of (hr.mono (by decide)) (by rfl) T.g_finite_of k_finite_of b_finite_of (qa_cons (q_var (pv 0)) qa_nil))))
 (qss_cons (qs_if (qt_cmp op_eq r_eq (q_fld f_coef T.cl_Decimal T.no_Decimal_coefficient (q_var (pv 0))) (q_int pe_int) (nomark _))
 (qss_one (qs_ret (q_tup (qa_cons (q_int pe_int) (qa_cons (q_int pe_int) qa_nil)))))
 qss_nil)
 (qss_cons (qs_par (ps_par (i := 1) (j := 2) (by rfl) sc_ratio.nd rfl rfl (by decide) rfl rfl (qa_cons (q_op op_mulW r_I (q_fld f_coef T.cl_Decimal T.no_Decimal_coefficient (q_var (pv 0))) (q_call G_tens (hr.mono (by decide)) (by rfl) T.g_tens k_tens b_tens (qa_cons (q_cb (max_i rfl) c_max (by rfl) T.n_max (by decide +kernel) (qa_cons (q_fld f_exp T.cl_Decimal T.no_Decimal_exponent (q_var (pv 0))) (qa_cons (q_int pe_int) qa_nil))) qa_nil))) (qa_cons (q_call G_tens (hr.mono (by decide)) (by rfl) T.g_tens k_tens b_tens (qa_cons (q_cb (max_i rfl) c_max (by rfl) T.n_max (by decide +kernel) (qa_cons (q_un un_neg r_neg (q_fld f_exp T.cl_Decimal T.no_Decimal_exponent (q_var (pv 0)))) (qa_cons (q_int pe_int) qa_nil))) qa_nil)) qa_nil)) (by rfl)))
 (qss_cons (qs_set (ps_set (i := 3) sc_ratio.nd rfl (Or.inl rfl) (q_call G_common_factor (hr.mono (by decide)) (by rfl) T.g_common_factor k_common_factor b_common_factor (qa_cons (q_var (pv 1)) (qa_cons (q_var (pv 2)) qa_nil)))))
 (qss_one (qs_ret (q_tup (qa_cons (q_ifExp (qt_cmp op_eq r_eq (q_fld f_sign T.cl_Decimal T.no_Decimal_sign (q_var (pv 0))) (q_int pe_int) (nomark _)) (q_op op_fdivW r_I (q_un un_neg r_neg (q_var (pv 1))) (q_var (pv 3))) (q_op op_fdivW r_I (q_var (pv 1)) (q_var (pv 3)))) (qa_cons (q_op op_fdivW r_I (q_var (pv 2)) (q_var (pv 3))) qa_nil))))))))))) (fun ds O Q h => ?_) (fun ds O Q h => ?_), F.bindsN (fun _ _ _ _ _ _ us hl => match us, hl with | [_], _ => rfl), F.kp⟩
  · obtain ⟨s, c, e, rfl, _⟩ := h
    rfl
  · obtain ⟨s, c, e, rfl, c0, cn, e1, k⟩ := h
    walk_at "q"
    refine ⟨⟨e, rfl⟩, iteD (fun h => ?_) fun h => ?_⟩
    · unfold ratI at k
      rw [if_pos h] at k
      exact k
    · have T0 : 0 < c * 10 ^ (max e 0).toNat := Int.mul_pos (by omega) (pow10_pos _)
      have B0 := pow10_pos (max (-e) 0).toNat
      have cl := Int.lt_of_lt_of_le (lt_nd c0) (pw_mono (show (nd c).toNat ≤ 2000 by omega))
      have gp : 0 < Nat.gcd (c * 10 ^ (max e 0).toNat).toNat ((10 : Int) ^ (max (-e) 0).toNat).toNat := Nat.gcd_pos_of_pos_left _ (by omega)
      have gl : Nat.gcd (c * 10 ^ (max e 0).toNat).toNat ((10 : Int) ^ (max (-e) 0).toNat).toNat < 10 ^ 2000 := by
        by_cases he : 0 ≤ e
        · have : ((10 : Int) ^ (max (-e) 0).toNat).toNat = 1 := by
            rw [show (max (-e) 0).toNat = 0 by omega]
            rfl
          rw [this, Nat.gcd_one_right]
          exact Nat.one_lt_pow (by decide) (by decide)
        · have e1 : c * 10 ^ (max e 0).toNat = c := by
            rw [show (max e 0).toNat = 0 by omega]
            exact Int.mul_one c
          rw [e1]
          have h1 := Nat.gcd_le_left ((10 : Int) ^ (max (-e) 0).toNat).toNat (show 0 < c.toNat by omega)
          have h2 := natAbs_lt c0 cl
          omega
      have cd : ∀ i, CDivW i ((Nat.gcd (c * 10 ^ (max e 0).toNat).toNat ((10 : Int) ^ (max (-e) 0).toNat).toNat : Nat) : Int) := fun i => ⟨by omega, by
        have := log2_10 gl
        rw [Int.natAbs_natCast]
        omega⟩
      have mw : CMulW c (10 ^ (max e 0).toNat) := mulW_of (n := 3001) (natAbs_lt c0 cl) (by rw [abs10]; exact Nat.pow_lt_pow_right (by decide) (by omega)) (by decide)
      unfold ratI at k
      rw [if_neg h] at k
      refine ⟨by omega, by omega, mw, by omega, by omega, (c * 10 ^ (max e 0).toNat).toNat, by omega, ((10 : Int) ^ (max (-e) 0).toNat).toNat, by omega, iteD (fun hs => ⟨cd _, cd _, ?_⟩) fun hs => ⟨cd _, cd _, ?_⟩⟩
      · rw [if_pos hs] at k
        exact k
      · rw [if_neg hs] at k
        exact k
theorem ok_cut_whole (T : Tx K mg) : OkP P w K mg base 3 ("cut_whole", none) ["a"] g_cutI := by
  obtain ⟨fd_tens, G_tens, b_tens, k_tens⟩ := ok_tens (P := P) (w := w) (base := base) T
  obtain ⟨fd_count_digits, G_count_digits, b_count_digits, k_count_digits⟩ := ok_count_digits (P := P) (w := w) (base := base) T
  obtain ⟨fd, F⟩ := T.d_cut_whole
  refine ⟨fd, okP (k := 2) F sc_cut_whole (fun cdv A outer s H E hr => PSs.nox ((qss_cons (qs_if (qt_cmp op_eq r_eq (q_fld f_coef T.cl_Decimal T.no_Decimal_coefficient (q_var (pv 0))) (q_int pe_int) (nomark _))
 (qss_one (qs_ret (q_tup (qa_cons (q_int pe_int) (qa_cons (q_int pe_int) qa_nil)))))
 qss_nil)
 (qss_cons (qs_if (qt_cmp op_ge r_B (q_fld f_exp T.cl_Decimal T.no_Decimal_exponent (q_var (pv 0))) (q_int pe_int) (nomark _))
 (qss_one (qs_ret (q_tup (qa_cons (q_op op_mulW r_I (q_fld f_coef T.cl_Decimal T.no_Decimal_coefficient (q_var (pv 0))) (q_call G_tens (hr.mono (by decide)) (by rfl) T.g_tens k_tens b_tens (qa_cons (q_fld f_exp T.cl_Decimal T.no_Decimal_exponent (q_var (pv 0))) qa_nil))) (qa_cons (q_int pe_int) qa_nil)))))
 qss_nil)
 (qss_cons (qs_if (qt_cmp op_gt r_B (q_un un_neg r_neg (q_fld f_exp T.cl_Decimal T.no_Decimal_exponent (q_var (pv 0)))) (q_call G_count_digits (hr.mono (by decide)) (by rfl) T.g_count_digits k_count_digits b_count_digits (qa_cons (q_fld f_coef T.cl_Decimal T.no_Decimal_coefficient (q_var (pv 0))) qa_nil)) (nomark _))
 (qss_one (qs_ret (q_tup (qa_cons (q_int pe_int) (qa_cons (q_int pe_int) qa_nil)))))
 qss_nil)
 (qss_cons (qs_set (ps_set (i := 1) sc_cut_whole.nd rfl (Or.inl rfl) (q_call G_tens (hr.mono (by decide)) (by rfl) T.g_tens k_tens b_tens (qa_cons (q_un un_neg r_neg (q_fld f_exp T.cl_Decimal T.no_Decimal_exponent (q_var (pv 0)))) qa_nil))))
 (qss_cons (qs_par (ps_par (i := 2) (j := 3) (by rfl) sc_cut_whole.nd rfl rfl (by decide) rfl rfl (qa_cons (q_op op_fdivW r_I (q_fld f_coef T.cl_Decimal T.no_Decimal_coefficient (q_var (pv 0))) (q_var (pv 1))) (qa_cons (q_op op_mod r_I (q_fld f_coef T.cl_Decimal T.no_Decimal_coefficient (q_var (pv 0))) (q_var (pv 1))) qa_nil)) (by rfl)))
 (qss_one (qs_ret (q_tup (qa_cons (q_var (pv 2)) (qa_cons (q_op op_add r_I0 (q_op op_add r_I0 (q_ct int_1 c_int (by rfl) T.n_int (by decide +kernel) (qa_cons (q_cmp op_gt r_B (q_var (pv 3)) (q_int pe_int) (nomark _)) qa_nil)) (q_op op_mulW r_I (q_ct int_1 c_int (by rfl) T.n_int (by decide +kernel) (qa_cons (q_cmp op_ge r_B (q_op op_mulW r_I (q_int pe_int) (q_var (pv 3))) (q_var (pv 1)) (nomark _)) qa_nil)) (q_ct int_1 c_int (by rfl) T.n_int (by decide +kernel) (qa_cons (q_cmp op_gt r_B (q_var (pv 3)) (q_int pe_int) (nomark _)) qa_nil)))) (q_ct int_1 c_int (by rfl) T.n_int (by decide +kernel) (qa_cons (q_cmp op_gt r_B (q_op op_mulW r_I (q_int pe_int) (q_var (pv 3))) (q_var (pv 1)) (nomark _)) qa_nil))) qa_nil)))))))))))) (fun ds O Q h => ?_) (fun ds O Q h => ?_), F.bindsN (fun _ _ _ _ _ _ us hl => match us, hl with | [_], _ => rfl), F.kp⟩
  · obtain ⟨s, c, e, rfl, _⟩ := h
    rfl
  · obtain ⟨s, c, e, rfl, c0, cn, e1, k⟩ := h
    walk_at "q"
    have cl := Int.lt_of_lt_of_le (lt_nd c0) (pw_mono (show (nd c).toNat ≤ 2000 by omega))
    unfold cutI at k
    refine iteD (fun h => ?_) fun h => iteD (fun h2 => ?_) fun h2 => ⟨c0, iteD (fun h3 => ?_) fun h3 => ?_⟩
    · rw [if_pos h] at k
      exact k
    · rw [if_neg h, if_pos h2] at k
      exact ⟨h2, by omega, mulW_of (n := 3001) (natAbs_lt c0 cl) (by rw [abs10]; exact Nat.pow_lt_pow_right (by decide) (by omega)) (by decide), k⟩
    · rw [if_neg h, if_neg h2, if_pos h3] at k
      exact k
    · rw [if_neg h, if_neg h2, if_neg h3] at k
      have U := pow10_pos (-e).toNat
      have m0 := Int.emod_nonneg c (Int.ne_of_gt U)
      have m1 : c % 10 ^ (-e).toNat < 10 ^ 2000 := Int.lt_of_lt_of_le (Int.emod_lt_of_pos _ U) (pw_mono (by omega))
      have m2 : CMulW 2 (c % 10 ^ (-e).toNat) := mulW_of (m := 1) (by decide) (natAbs_lt m0 m1) (by decide)
      refine ⟨by omega, by omega, ⟨U, ?_⟩, U, m2, mulW_of (m := 1) (n := 1) (by split <;> decide) (by split <;> decide) (by decide), m2, k⟩
      have h9 : ((10 : Int) ^ (-e).toNat).natAbs < 10 ^ 2001 := by
        rw [abs10]
        exact Nat.pow_lt_pow_right (by decide) (by omega)
      have := log2_10 h9
      omega
theorem ok_with_sign_of (T : Tx K mg) : OkP P w K mg base 1 ("with_sign_of", none) ["a", "whole"] g_sgnI := by
  obtain ⟨fd, F⟩ := T.d_with_sign_of
  refine ⟨fd, okP (k := 0) F sc_with_sign_of (fun cdv A outer s H E hr => PSs.nox ((qss_one (qs_ret (q_ifExp (qt_cmp op_eq r_eq (q_fld f_sign T.cl_Decimal T.no_Decimal_sign (q_var (pv 0))) (q_int pe_int) (nomark _)) (q_un un_neg r_neg (q_var (pv 1))) (q_var (pv 1))))))) (fun ds O Q h => ?_) (fun ds O Q h => ?_), F.bindsN (fun _ _ _ _ _ _ us hl => match us, hl with | [_, _], _ => rfl), F.kp⟩
  · obtain ⟨a, w, rfl, _⟩ := h
    rfl
  · obtain ⟨a, w, rfl, k⟩ := h
    walk_at "q"
    unfold sgnI at k
    refine iteD (fun h => ?_) (fun h => ?_)
    · rw [if_pos h] at k
      exact k
    · rw [if_neg h] at k
      exact k
theorem ok_truncated (T : Tx K mg) : OkP P w K mg base 7 ("truncated", none) ["a"] (g_intI fun s c e => sgnI s (cutI c e).1) := by
  obtain ⟨fd_finite_of, G_finite_of, b_finite_of, k_finite_of⟩ := ok_finite_of (P := P) (w := w) (base := base) T
  obtain ⟨fd_with_sign_of, G_with_sign_of, b_with_sign_of, k_with_sign_of⟩ := ok_with_sign_of (P := P) (w := w) (base := base) T
  obtain ⟨fd_cut_whole, G_cut_whole, b_cut_whole, k_cut_whole⟩ := ok_cut_whole (P := P) (w := w) (base := base) T
  obtain ⟨fd, F⟩ := T.d_truncated
  refine ⟨fd, okP (k := 6) F sc_truncated (fun cdv A outer s H E hr => PSs.nox ((qss_cons (qs_set (ps_set (i := 0) sc_truncated.nd rfl (Or.inl rfl) (q_call G_finite_of (hr.mono (by decide)) (by rfl) T.g_finite_of k_finite_of b_finite_of (qa_cons (q_var (pv 0)) qa_nil))))
 (qss_one (qs_ret (q_call G_with_sign_of (hr.mono (by decide)) (by rfl) T.g_with_sign_of k_with_sign_of b_with_sign_of (qa_cons (q_var (pv 0)) (qa_cons (q_ix ix_tup r_ixT (q_call G_cut_whole (hr.mono (by decide)) (by rfl) T.g_cut_whole k_cut_whole b_cut_whole (qa_cons (q_var (pv 0)) qa_nil)) (q_int pe_int) (fun _ _ => rfl)) qa_nil)))))))) (fun ds O Q h => ?_) (fun ds O Q h => ?_), F.bindsN (fun _ _ _ _ _ _ us hl => match us, hl with | [_], _ => rfl), F.kp⟩
  · obtain ⟨s, c, e, rfl, _⟩ := h
    rfl
  · obtain ⟨s, c, e, rfl, c0, cn, e1, k⟩ := h
    walk_at "q"
    exact ⟨⟨e, rfl⟩, s, c, e, rfl, c0, cn, e1, k⟩
theorem ok_floored (T : Tx K mg) : OkP P w K mg base 7 ("floored", none) ["a"] (g_intI floI) := by
  obtain ⟨fd_finite_of, G_finite_of, b_finite_of, k_finite_of⟩ := ok_finite_of (P := P) (w := w) (base := base) T
  obtain ⟨fd_cut_whole, G_cut_whole, b_cut_whole, k_cut_whole⟩ := ok_cut_whole (P := P) (w := w) (base := base) T
  obtain ⟨fd_with_sign_of, G_with_sign_of, b_with_sign_of, k_with_sign_of⟩ := ok_with_sign_of (P := P) (w := w) (base := base) T
  obtain ⟨fd, F⟩ := T.d_floored
  refine ⟨fd, okP (k := 6) F sc_floored (fun cdv A outer s H E hr => PSs.nox ((qss_cons (qs_set (ps_set (i := 0) sc_floored.nd rfl (Or.inl rfl) (q_call G_finite_of (hr.mono (by decide)) (by rfl) T.g_finite_of k_finite_of b_finite_of (qa_cons (q_var (pv 0)) qa_nil))))
 (qss_cons (qs_asg (q_call G_cut_whole (hr.mono (by decide)) (by rfl) T.g_cut_whole k_cut_whole b_cut_whole (qa_cons (q_var (pv 0)) qa_nil)) (qg_tup (n := 2) (by rfl) (qgs_cons (qg_name (pg_name (i := 1) sc_floored.nd rfl (Or.inl rfl))) (qgs_cons (qg_name (pg_name (i := 2) sc_floored.nd rfl (Or.inl rfl))) qgs_nil))))
 (qss_one (qs_ret (q_op op_sub r_I0 (q_call G_with_sign_of (hr.mono (by decide)) (by rfl) T.g_with_sign_of k_with_sign_of b_with_sign_of (qa_cons (q_var (pv 0)) (qa_cons (q_var (pv 1)) qa_nil))) (q_ct int_1 c_int (by rfl) T.n_int (by decide +kernel) (qa_cons (q_and (q_cmp op_gt r_B (q_var (pv 2)) (q_int pe_int) (nomark _)) (pe_one (q_cmp op_eq r_eq (q_fld f_sign T.cl_Decimal T.no_Decimal_sign (q_var (pv 0))) (q_int pe_int) (nomark _)))) qa_nil))))))))) (fun ds O Q h => ?_) (fun ds O Q h => ?_), F.bindsN (fun _ _ _ _ _ _ us hl => match us, hl with | [_], _ => rfl), F.kp⟩
  · obtain ⟨s, c, e, rfl, _⟩ := h
    rfl
  · obtain ⟨s, c, e, rfl, c0, cn, e1, k⟩ := h
    walk_at "q"
    unfold floI at k
    refine ⟨⟨e, rfl⟩, s, c, e, rfl, c0, cn, e1, iteD (fun h => ?_) fun h => ?_⟩
    · rw [decide_eq_true h, Bool.true_and] at k
      exact k
    · rw [decide_eq_false h, Bool.false_and] at k
      exact k
theorem ok_ceiled (T : Tx K mg) : OkP P w K mg base 7 ("ceiled", none) ["a"] (g_intI ceiI) := by
  obtain ⟨fd_finite_of, G_finite_of, b_finite_of, k_finite_of⟩ := ok_finite_of (P := P) (w := w) (base := base) T
  obtain ⟨fd_cut_whole, G_cut_whole, b_cut_whole, k_cut_whole⟩ := ok_cut_whole (P := P) (w := w) (base := base) T
  obtain ⟨fd_with_sign_of, G_with_sign_of, b_with_sign_of, k_with_sign_of⟩ := ok_with_sign_of (P := P) (w := w) (base := base) T
  obtain ⟨fd, F⟩ := T.d_ceiled
  refine ⟨fd, okP (k := 6) F sc_ceiled (fun cdv A outer s H E hr => PSs.nox ((qss_cons (qs_set (ps_set (i := 0) sc_ceiled.nd rfl (Or.inl rfl) (q_call G_finite_of (hr.mono (by decide)) (by rfl) T.g_finite_of k_finite_of b_finite_of (qa_cons (q_var (pv 0)) qa_nil))))
 (qss_cons (qs_asg (q_call G_cut_whole (hr.mono (by decide)) (by rfl) T.g_cut_whole k_cut_whole b_cut_whole (qa_cons (q_var (pv 0)) qa_nil)) (qg_tup (n := 2) (by rfl) (qgs_cons (qg_name (pg_name (i := 1) sc_ceiled.nd rfl (Or.inl rfl))) (qgs_cons (qg_name (pg_name (i := 2) sc_ceiled.nd rfl (Or.inl rfl))) qgs_nil))))
 (qss_one (qs_ret (q_op op_add r_I0 (q_call G_with_sign_of (hr.mono (by decide)) (by rfl) T.g_with_sign_of k_with_sign_of b_with_sign_of (qa_cons (q_var (pv 0)) (qa_cons (q_var (pv 1)) qa_nil))) (q_ct int_1 c_int (by rfl) T.n_int (by decide +kernel) (qa_cons (q_and (q_cmp op_gt r_B (q_var (pv 2)) (q_int pe_int) (nomark _)) (pe_one (q_cmp op_eq r_eq (q_fld f_sign T.cl_Decimal T.no_Decimal_sign (q_var (pv 0))) (q_int pe_int) (nomark _)))) qa_nil))))))))) (fun ds O Q h => ?_) (fun ds O Q h => ?_), F.bindsN (fun _ _ _ _ _ _ us hl => match us, hl with | [_], _ => rfl), F.kp⟩
  · obtain ⟨s, c, e, rfl, _⟩ := h
    rfl
  · obtain ⟨s, c, e, rfl, c0, cn, e1, k⟩ := h
    walk_at "q"
    unfold ceiI at k
    refine ⟨⟨e, rfl⟩, s, c, e, rfl, c0, cn, e1, iteD (fun h => ?_) fun h => ?_⟩
    · rw [decide_eq_true h, Bool.true_and] at k
      exact k
    · rw [decide_eq_false h, Bool.false_and] at k
      exact k
theorem ok_nearest (T : Tx K mg) : OkP P w K mg base 7 ("nearest", none) ["a"] (g_intI neaI) := by
  obtain ⟨fd_finite_of, G_finite_of, b_finite_of, k_finite_of⟩ := ok_finite_of (P := P) (w := w) (base := base) T
  obtain ⟨fd_cut_whole, G_cut_whole, b_cut_whole, k_cut_whole⟩ := ok_cut_whole (P := P) (w := w) (base := base) T
  obtain ⟨fd_with_sign_of, G_with_sign_of, b_with_sign_of, k_with_sign_of⟩ := ok_with_sign_of (P := P) (w := w) (base := base) T
  obtain ⟨fd, F⟩ := T.d_nearest
  refine ⟨fd, okP (k := 6) F sc_nearest (fun cdv A outer s H E hr => PSs.nox ((qss_cons (qs_set (ps_set (i := 0) sc_nearest.nd rfl (Or.inl rfl) (q_call G_finite_of (hr.mono (by decide)) (by rfl) T.g_finite_of k_finite_of b_finite_of (qa_cons (q_var (pv 0)) qa_nil))))
 (qss_cons (qs_asg (q_call G_cut_whole (hr.mono (by decide)) (by rfl) T.g_cut_whole k_cut_whole b_cut_whole (qa_cons (q_var (pv 0)) qa_nil)) (qg_tup (n := 2) (by rfl) (qgs_cons (qg_name (pg_name (i := 1) sc_nearest.nd rfl (Or.inl rfl))) (qgs_cons (qg_name (pg_name (i := 2) sc_nearest.nd rfl (Or.inl rfl))) qgs_nil))))
 (qss_one (qs_ret (q_call G_with_sign_of (hr.mono (by decide)) (by rfl) T.g_with_sign_of k_with_sign_of b_with_sign_of (qa_cons (q_var (pv 0)) (qa_cons (q_op op_add r_I0 (q_var (pv 1)) (q_ct int_1 c_int (by rfl) T.n_int (by decide +kernel) (qa_cons (q_or (q_cmp op_eq r_eq (q_var (pv 2)) (q_int pe_int) (nomark _)) (pe_one (q_and (q_cmp op_eq r_eq (q_var (pv 2)) (q_int pe_int) (nomark _)) (pe_one (q_cmp op_eq r_eq (q_op op_mod r_I (q_var (pv 1)) (q_int pe_int)) (q_int pe_int) (nomark _)))))) qa_nil))) qa_nil))))))))) (fun ds O Q h => ?_) (fun ds O Q h => ?_), F.bindsN (fun _ _ _ _ _ _ us hl => match us, hl with | [_], _ => rfl), F.kp⟩
  · obtain ⟨s, c, e, rfl, _⟩ := h
    rfl
  · obtain ⟨s, c, e, rfl, c0, cn, e1, k⟩ := h
    walk_at "q"
    unfold neaI at k
    refine ⟨⟨e, rfl⟩, s, c, e, rfl, c0, cn, e1, iteD (fun h => ?_) fun h => iteD (fun h2 => ⟨by decide, ?_⟩) fun h2 => ?_⟩
    · rw [decide_eq_true h, Bool.true_or] at k
      exact k
    · rw [decide_eq_false h, Bool.false_or, decide_eq_true h2, Bool.true_and] at k
      exact k
    · rw [decide_eq_false h, Bool.false_or, decide_eq_false h2, Bool.false_and] at k
      exact k
end

section
variable {P : Program} {w : World} {K : PySem.W.Frag} {mg : Str → Option Value} {base : Heap}
theorem ok__law_well (T : Tx K mg) : OkP P w K mg base 1 ("_law_well", none) ["_law_cell"] (g_well 900000000) := by
  obtain ⟨fd, F⟩ := T.d__law_well
  refine ⟨fd, okP (k := 0) F sc__law_well (fun cdv A outer s H E hr => PSs.nox ((qss_one (qs_ret (q_lstW (qa_cons (q_op op_mul r_I (q_cb abs_i c_abs (by rfl) T.n_abs (by decide +kernel) (qa_cons (q_var (pv 0)) qa_nil)) (q_ct int_1 c_int (by rfl) T.n_int (by decide +kernel) (qa_cons (q_cmp op_ge r_B (q_cb abs_i c_abs (by rfl) T.n_abs (by decide +kernel) (qa_cons (q_var (pv 0)) qa_nil)) (q_op op_pow r_I (q_int pe_int) (q_int pe_int)) (nomark _)) qa_nil))) (qa_cons (q_op op_mod r_I (q_ct int_1 c_int (by rfl) T.n_int (by decide +kernel) (qa_cons (q_var (pv 0)) qa_nil)) (q_int pe_int)) (qa_cons (q_int pe_int) qa_nil)))))))) (fun ds O Q h => ?_) (fun ds O Q h => ?_), F.bindsN (fun _ _ _ _ _ _ us hl => match us, hl with | [_], _ => rfl), F.kp⟩
  · obtain ⟨i, rfl, _⟩ := h
    rfl
  · obtain ⟨i, rfl, k⟩ := h
    walk_at "q"
    have e18 : (10 : Int) ^ Int.toNat 18 = 1000000000000000000 := by decide
    rw [e18]
    have cp : CPow 10 18 := ⟨by decide, by decide, by decide⟩
    have z1 : (0 : Int) ≤ 900000000 := by decide
    have z2 : (0 : Int) + 900000000 ≤ 1000000000 := by decide
    have x1 := Int.emod_nonneg i (show (2147483647 : Int) ≠ 0 by decide)
    have x2 := Int.emod_lt_of_pos i (show (0 : Int) < 2147483647 by decide)
    refine ⟨cp, .inr ?_, by decide, ?_, x1, by omega, by decide, 900000000, z1, z2, k⟩
    · by_cases h : 1000000000000000000 ≤ (i.natAbs : Int)
      · rw [decide_eq_true h, if_pos rfl]
        exact ⟨by decide, by decide⟩
      · rw [decide_eq_false h, if_neg (by decide)]
        exact ⟨by decide, by decide⟩
    · by_cases h : 1000000000000000000 ≤ (i.natAbs : Int)
      · rw [decide_eq_true h, if_pos rfl]
        omega
      · rw [decide_eq_false h, if_neg (by decide)]
        omega
theorem ok0__law_draw (T : Tx K mg) : Okd P w K mg base 1 ("_law_draw", none) ["_law_well_here", "_law_many"] sp_draw := by
  obtain ⟨fd, F⟩ := T.d__law_draw
  refine ⟨fd, F.ok sc__law_draw (fun vs H Q E h => ?_) (fun cdv A outer s H vs Q E hr h => ⟨_, PSs.nox ((pss_cons (ps_if (pt_cmpR op_gt (pe_ix ix_l (pv 0) pe_int (fun _ _ => rfl)) pe_int (nomark _))
 (pss_cons (ps_set (i := 2) sc__law_draw.nd rfl (Or.inl rfl) (pe_op op_mod (pe_callTy int_1 (by rfl) T.n_int (by decide +kernel) (pa_cons (pe_ix ix_l (pv 0) pe_int (fun _ _ => rfl)) pa_nil)) (pv 1)))
 (pss_cons (ps_asg (pe_op op_fdivW (pe_ix ix_l (pv 0) pe_int (fun _ _ => rfl)) (pv 1)) (pg_sub (pv 0) pe_int set_list))
 (pss_one (ps_ret (pv 2)))))
 pss_nil)
 (pss_cons (ps_asg (pe_op op_add (pe_ix ix_l (pv 0) pe_int (fun _ _ => rfl)) pe_int) (pg_sub (pv 0) pe_int set_list))
 (pss_cons (ps_set (i := 3) sc__law_draw.nd rfl (Or.inl rfl) (pe_op op_mod (pe_callTy int_1 (by rfl) T.n_int (by decide +kernel) (pa_cons (pe_op op_pow (pe_op op_add (pe_op op_add (pe_ix ix_l (pv 0) pe_int (fun _ _ => rfl)) (pe_op op_mul pe_int (pe_ix ix_l (pv 0) pe_int (fun _ _ => rfl)))) pe_int) pe_int) pa_nil)) pe_int))
 (pss_cons (ps_set (i := 3) sc__law_draw.nd rfl (Or.inl rfl) (pe_op op_mod (pe_callTy int_1 (by rfl) T.n_int (by decide +kernel) (pa_cons (pe_op op_mul (pe_op op_add (pv 3) (pe_ix ix_l (pv 0) pe_int (fun _ _ => rfl))) (pe_op op_add (pe_op op_fdivW (pv 3) pe_int) pe_int)) pa_nil)) pe_int))
 (pss_one (ps_ret (pe_op op_mod (pe_callTy int_1 (by rfl) T.n_int (by decide +kernel) (pa_cons (pe_op op_mod (pe_callTy int_1 (by rfl) T.n_int (by decide +kernel) (pa_cons (pe_op op_mul (pv 3) (pe_op op_add (pe_op op_fdivW (pv 3) pe_int) pe_int)) pa_nil)) pe_int) pa_nil)) (pv 1))))))))), ?_⟩), F.bindsN (fun _ _ _ _ _ _ us hl => match us, hl with | [_, _], _ => rfl), F.kp⟩
  · obtain ⟨W, m, n, rfl, _⟩ := h
    rfl
  · obtain ⟨W, m, n, rfl, m1, m2, ⟨a, b, c, hw, ha, hb, hb2, hc, hn, hcn⟩, n1, k⟩ := h
    walk_at "rd"
    walk_at "wl"
    refine iteD (fun h => ⟨by omega, divW_small m1 m2, k _ _ SameX.upd ⟨_, _, _, upd_same, Int.ediv_nonneg ha (by omega), hb, hb2, hc, by omega, by omega⟩ (Int.emod_nonneg _ (by omega)) (Int.emod_lt_of_pos _ (by omega))⟩) (fun h => ?_)
    refine ⟨.inl ⟨by decide, by decide⟩, by decide, by decide, by omega, by decide, ⟨by decide, by decide⟩, ?_⟩
    have x1 := Int.emod_nonneg ((b + 6151 * (c + 1) + 17) ^ Int.toNat 3) (show (2147483629 : Int) ≠ 0 by decide)
    have x2 := Int.emod_lt_of_pos ((b + 6151 * (c + 1) + 17) ^ Int.toNat 3) (show (0 : Int) < 2147483629 by decide)
    generalize (b + 6151 * (c + 1) + 17) ^ Int.toNat 3 % 2147483629 = x at x1 x2 ⊢
    refine ⟨.inl ⟨by omega, by omega⟩, by decide, ⟨by decide, by decide⟩, ?_⟩
    have y1 := Int.emod_nonneg ((x + (c + 1)) * (x / 1013 + 69621)) (show (2147483587 : Int) ≠ 0 by decide)
    have y2 := Int.emod_lt_of_pos ((x + (c + 1)) * (x / 1013 + 69621)) (show (0 : Int) < 2147483587 by decide)
    generalize (x + (c + 1)) * (x / 1013 + 69621) % 2147483587 = y at y1 y2 ⊢
    refine ⟨.inl ⟨by omega, by omega⟩, by decide, by omega, ?_⟩
    exact k _ _ SameX.upd ⟨_, _, _, upd_same, ha, hb, hb2, by omega, by omega, by omega⟩ (Int.emod_nonneg _ (by omega)) (Int.emod_lt_of_pos _ (by omega))
theorem ok__law_draw (T : Tx K mg) : OkP P w K mg base 1 ("_law_draw", none) ["_law_well_here", "_law_many"] g_draw := by
  obtain ⟨fd, G, b, k⟩ := ok0__law_draw (P := P) (w := w) (base := base) T
  exact ⟨fd, G.imp fun _ _ _ _ h => draw_imp h, b, k⟩
theorem ok__law_pick (T : Tx K mg) : OkP P w K mg base 2 ("_law_pick", none) ["_law_well_here", "_law_some"] g_one := by
  obtain ⟨fd__law_draw, G__law_draw, b__law_draw, k__law_draw⟩ := ok__law_draw (P := P) (w := w) (base := base) T
  obtain ⟨fd, F⟩ := T.d__law_pick
  refine ⟨fd, okP (k := 1) F sc__law_pick (fun cdv A outer s H E hr => PSs.nox ((qss_one (qs_ret (q_ix ix_list r_ixL (q_var (pv 1)) (q_call G__law_draw (hr.mono (by decide)) (by rfl) T.g__law_draw k__law_draw b__law_draw (qa_cons (q_var (pv 0)) (qa_cons (q_cb call_len_seq c_lenL (by rfl) T.n_len (by decide +kernel) (qa_cons (q_var (pv 1)) qa_nil)) qa_nil))) (fun _ _ => rfl)))))) (fun ds O Q h => ?_) (fun ds O Q h => ?_), F.bindsN (fun _ _ _ _ _ _ us hl => match us, hl with | [_, _], _ => rfl), F.kp⟩
  · obtain ⟨W, xs, rfl, _⟩ := h
    rfl
  · obtain ⟨W, xs, rfl, n, hw, x0, x1, n1, k⟩ := h
    walk_at "q"
    refine ⟨n, hw, by omega, by omega, n1, fun v v0 v1 => ?_⟩
    have hv : v.toNat < xs.length := by omega
    refine ⟨xs[v.toNat], ?_, k _ (List.getElem_mem hv)⟩
    unfold L2.atI ixN
    rw [if_pos v0, if_pos v1]
    exact List.getElem?_eq_getElem hv
end

set_option hygiene false in
local macro_rules | `(tactic| walk_at "q") => `(tactic| simp (config := { maxSteps := 2000000 }) only [g_tens, g_count_digits, g_goes_up, g_rounded_parts, g_overflow, g_finish_zero, g_finish_cut, g_finish_parts, g_etiny, g_etop, g_infinity, g_plain_nan, gQ, g_is_integer, g_is_exponent, g_kept_digits, g_finish, g_nan_of, g_with_sign_sums, g_un, g_signal_of, g_check_between, optT_none, optT_some, dCFld, dCMeth, dInG, dNiG, dInGT, dNiGT, fSortD, fIsLT, fAll, dDcT, dDcL, vD, ex_n', ex_F', ex_N', g_with_one, g_outcome_of, g_is_operation, g_told, g_names_of, g_draw, g_one, g_well, dKw, fCtx, g_law_ten, g_law_parts, g_law_ways, g_law_rules, g_law_context, g_law_digits, g_law_number, dSl, dNoP, dPart, fSlL, fSlR, fSlS, fRepS, fIntS, g_law_is_near, g_law_is_over, g_law_most, g_law_is_cut, dCutS, fRepB, dCSet, dLcK, fInDct, fListD, g_clear_flags, g_flags, g_noted, g_settled, g_meth1, g_meth2, g_meth3, g_law, ite01_or, ite01_dec, g_law_wide_rules, g_law_far_number, g_invalid, g_sign_of_both, g_exact_product, g_bin, optDc_none, optDc_some, g_with_two, g_first_half, g_second_half, dSlK, fSlT, g_law_coefficient, g_law_pair, g_adjusted, g_worth, g_sum_parts, g_added, g_tri, g_law_far_pair, eUnl, g_law_sum, g_law_made, g_law_turned, g_law_three, gOr, g_names_ofL, dCTrp, g_set_traps, g_law_pair2, g_law_whole_right, dApp, eSub, g_law_madeX, g_law_special, g_law_any, g_law_quiet, g_law_is_due, g_law_product, g_law_fma_right, optQ_none, optQ_some, optX_none, optX_some, dLcRM, dLstW, fCatLM, dLcS, g_wellF, g_nan_ofT, g_law_tens, g_law_numberF, g_law_frame, g_law_near, g_law_ground, g_unF, g_law_raised, g_law_over, g_law_finished, g_law_nan, optN_none, optN_some, g_law_due59, g_law_things59, dDisp, dPairs, dGet2, fIxD, g_side_of, g_size_order, g_order_of, g_as_decimal, g_deq1, g_deq2, fEqO, fNeO, g_is_integer2, fIsDecInt, dCallL, dEither, g_pmI, g_finI, g_gcdI, g_ratI, g_cutI, g_sgnI, g_intI, g_law_whole97, dSeq, dNext, dCont, dBreak, dNever, dDrop, dRet, dRetN, dIfS, dAsg, dPar, dPar3, dAug, eName, eNil, eCons, eTup, dVar, dC, dOp, dUn, dCl, dTest, dAnd, dOr, dNot, dAndV, dOrV, dNotV, dIf, dChain, dNil, dCons, dTup, dLst, dLstM, dFld, dMeth, dForL, dForT, dForR, dForR2, dLcL, dLcT, dLcR, dYes, dFreeze, fI, fI0, fB, fNeg, fEq, fNe, fEqD, fNeD, fIsN, fNotN, fIn, fNi, fIxT, fIxL, fIxR, fIxM, fCatS, fCatL, fCatT, fRepL, fAbs, fMax, fMin, fInt, fStr, fLenS, fLenT, fLenL, fLenR, fListT, fListL, fTupL, fDivmod, fIs, fIsDec, fIsTup, fDec, fRul, isDecD, isRulD, exOf_int, exOf_d, fltD_non, fltD_bl, fltD_int, fltD_str, fltD_tup, fltD_lst, fltD_dec, fltD_rul, fltD_ref, isIntD_non, isIntD_bl, isIntD_int, isIntD_str, isIntD_tup, isIntD_lst, isIntD_dec, isIntD_rul, isIntD_ref, isNumD_non, isNumD_bl, isNumD_int, isNumD_str, isNumD_tup, isNumD_lst, isNumD_dec, isNumD_rul, isNumD_ref, isBlD_non, isBlD_bl, isBlD_int, isBlD_str, isBlD_tup, isBlD_lst, isBlD_dec, isBlD_rul, isBlD_ref, isStrD_non, isStrD_bl, isStrD_int, isStrD_str, isStrD_tup, isStrD_lst, isStrD_dec, isStrD_rul, isStrD_ref, isNon_non, isNon_bl, isNon_int, isNon_str, isNon_tup, isNon_lst, isNon_dec, isNon_rul, isNon_ref, numD_int, numD_bl, gSign_dec, gCoef_dec, gExp_dec, gPrec_rul, gRnd_rul, gEmin_rul, gEmax_rul, gClamp_rul, sc2_non_non, seq_non_non, eqF_non_non, sc2_non_bl, seq_non_bl, eqF_non_bl, sc2_non_int, seq_non_int, eqF_non_int, sc2_non_str, seq_non_str, eqF_non_str, sc2_bl_non, seq_bl_non, eqF_bl_non, sc2_bl_bl, seq_bl_bl, eqF_bl_bl, eqF_bl_int, sc2_bl_str, seq_bl_str, eqF_bl_str, sc2_int_non, seq_int_non, eqF_int_non, eqF_int_bl, sc2_int_int, seq_int_int, eqF_int_int, sc2_int_str, seq_int_str, eqF_int_str, sc2_str_non, seq_str_non, eqF_str_non, sc2_str_bl, seq_str_bl, eqF_str_bl, sc2_str_int, seq_str_int, eqF_str_int, sc2_str_str, seq_str_str, eqF_str_str, inD_nil, inD_cons, exd_fin, exd_inf, exd_qn, exd_sn, isFin_fin, isFin_inf, isFin_qn, isFin_sn, isInf_fin, isInf_inf, isInf_qn, isInf_sn, isNan_fin, isNan_inf, isNan_qn, isNan_sn, isSn_fin, isSn_inf, isSn_qn, isSn_sn, flt_ex, int_ex, sc_ex, ex_F, ex_n, ex_N, dstart, List.map_cons, List.map_nil, List.append_nil, List.cons_append, List.nil_append, List.length_cons, List.length_nil, List.replicate_succ, List.replicate_zero, List.getElem?_cons_zero, List.getElem?_cons_succ, List.set_cons_zero, List.set_cons_succ, List.all_cons, List.all_nil, Nat.add_one_sub_one, Nat.sub_self, Nat.reduceAdd, Nat.reduceSub, Nat.zero_add, Nat.sub_zero, at1_0', at2_0', at2_1', at3_0', at3_1', at3_2', at5_0', at5_1', at5_2', at5_3', at5_4', updO_same, updO_updO,
  Option.some.injEq, exists_eq_left', exists_eq_left, exists_eq, exists_eq', exists_and_left, exists_and_right, D.int.injEq, D.bl.injEq, D.str.injEq, D.ref.injEq, D.tup.injEq, D.lst.injEq, D.dec.injEq, D.rul.injEq, D.ty.injEq, MO.well.injEq, MO.lst.injEq, MO.ctx.injEq, List.cons.injEq, reduceCtorEq, Nat.reduceLeDiff, and_assoc, and_true, true_and, false_and, and_false, or_false, false_or, Bool.or_false, Bool.false_or, Bool.and_self, Bool.and_true, Bool.true_and, Bool.false_eq_true, if_true, if_false, ite_true, ite_false, Bool.not_true, Bool.not_false, reduceIte, decide_true, decide_false])
set_option hygiene false in
local macro_rules | `(tactic| walk_at "br") => `(tactic| repeat (first | refine ite_yes (by decide +kernel) ?_ | refine ite_no (by decide +kernel) ?_))
set_option hygiene false in
local macro_rules | `(tactic| walk_at "yes") => `(tactic| first | exact k | exact (congrArg (fun b => Q (D.bl b) O) (show _ = true by decide +kernel)).mpr k)

theorem log83 {n : Int} {k : Nat} (h0 : 0 ≤ n) (h : n < 10 ^ k) (hk : k ≤ 400) : n.natAbs.log2 < 1920 := by
  have := log2_10 (natAbs_lt h0 h)
  omega
theorem pow_nat (B : Nat) : ((10 : Int) ^ B) = ((10 ^ B : Nat) : Int) := by simp
theorem cut_len97 {z : Str} {m : Int} (h : 0 ≤ m) : (cutS z none (some m)).length = min m.toNat z.length := by
  rw [← cl_len, cl_cut]
  unfold cutL
  have e : HT.sIx (cl z).length (cl z).length (some m) = min m.toNat (cl z).length := by
    show (if m < 0 then _ else min m.toNat (cl z).length) = _
    rw [if_neg (by omega)]
  rw [HT.sIx_none, List.drop_zero, e, Nat.sub_zero, List.length_take, cl_len]
  omega
def g_law_whole97 : List D → Ow → DK → Prop := fun ds O P => ∃ W m, ds = [.ref W, .int m] ∧ ∃ n, O W = some (.well n) ∧ 1 ≤ m ∧ m ≤ 600 ∧ 10000 ≤ n ∧ ∀ v n', 0 ≤ v → v < 10 ^ (m.toNat + 1) → n - 1000 ≤ n' → P (.int v) (updO O W (.well n'))
section
variable {P : Program} {w : World} {K : PySem.W.Frag} {mg : Str → Option Value} {base : Heap}
theorem ok__law_whole (T : Tx K mg) : OkP P w K mg base 2 ("_law_whole", none) ["_law_well_here", "_law_most"] g_law_whole97 := by
  obtain ⟨fd__law_draw, G__law_draw, b__law_draw, k__law_draw⟩ := ok__law_draw (P := P) (w := w) (base := base) T
  obtain ⟨fd, F⟩ := T.d__law_whole
  refine ⟨fd, okP (k := 1) F sc__law_whole (fun cdv A outer s H E hr => PSs.nox ((qss_cons (qs_set (ps_set (i := 2) sc__law_whole.nd rfl (Or.inl rfl) (q_call G__law_draw (hr.mono (by decide)) (by rfl) T.g__law_draw k__law_draw b__law_draw (qa_cons (q_var (pv 0)) (qa_cons (q_int pe_int) qa_nil)))))
 (qss_cons (qs_if (qt_cmp op_lt r_B (q_var (pv 2)) (q_int pe_int) (nomark _))
 (qss_one (qs_ret (q_op op_mulW r_I (q_var (pv 2)) (q_call G__law_draw (hr.mono (by decide)) (by rfl) T.g__law_draw k__law_draw b__law_draw (qa_cons (q_var (pv 0)) (qa_cons (q_int pe_int) qa_nil))))))
 qss_nil)
 (qss_cons (qs_set (ps_set (i := 3) sc__law_whole.nd rfl (Or.inl rfl) (q_ct call_str_int c_str (by rfl) T.n_str (by decide +kernel) (qa_cons (q_op op_add r_I0 (q_int pe_int) (q_call G__law_draw (hr.mono (by decide)) (by rfl) T.g__law_draw k__law_draw b__law_draw (qa_cons (q_var (pv 0)) (qa_cons (q_int pe_int) qa_nil)))) qa_nil))))
 (qss_cons (qs_forR (ps_for PassesOwn.never rfl (pi_range1 (by rfl) T.n_range (qa_cons (q_call G__law_draw (hr.mono (by decide)) (by rfl) T.g__law_draw k__law_draw b__law_draw (qa_cons (q_var (pv 0)) (qa_cons (q_var (pv 1)) qa_nil))) qa_nil)) (qg_name (pg_name (i := 4) sc__law_whole.nd rfl (Or.inl rfl)))
 (qss_one (qs_set (ps_set (i := 3) sc__law_whole.nd rfl (Or.inl rfl) (q_op op_add_str r_catS (q_var (pv 3)) (q_ct call_str_int c_str (by rfl) T.n_str (by decide +kernel) (qa_cons (q_call G__law_draw (hr.mono (by decide)) (by rfl) T.g__law_draw k__law_draw b__law_draw (qa_cons (q_var (pv 0)) (qa_cons (q_int pe_int) qa_nil))) qa_nil))))))))
 (qss_cons (qs_if (qt_cmp op_lt r_B (q_var (pv 2)) (q_int pe_int) (nomark _))
 (qss_one (qs_set (ps_set (i := 3) sc__law_whole.nd rfl (Or.inl rfl) (q_slice sl_str r_slS (q_op op_add_str r_catS (q_var (pv 3)) (q_op op_repS r_repS (q_ix ix_list r_ixL (q_lst (qa_cons (q_str pe_str) (qa_cons (q_str pe_str) qa_nil))) (q_op op_sub r_I0 (q_var (pv 2)) (q_int pe_int)) (fun _ _ => rfl)) (q_op op_add r_I0 (q_int pe_int) (q_call G__law_draw (hr.mono (by decide)) (by rfl) T.g__law_draw k__law_draw b__law_draw (qa_cons (q_var (pv 0)) (qa_cons (q_int pe_int) qa_nil)))))) qo_none (qo_some (q_var (pv 1)))))))
 qss_nil)
 (qss_one (qs_ret (q_ct call_int_str c_intS (by rfl) T.n_int (by decide +kernel) (qa_cons (q_var (pv 3)) qa_nil))))))))))) (fun ds O Q h => ?_) (fun ds O Q h => ?_), F.bindsN (fun _ _ _ _ _ _ us hl => match us, hl with | [_, _], _ => rfl), F.kp⟩
  · obtain ⟨W, m, rfl, _⟩ := h
    rfl
  · obtain ⟨W, m, rfl, n, hw, m1, m2, hn, k⟩ := h
    walk_at "q"
    refine ⟨n, hw, by decide, by decide, by omega, fun v v0 v1 => iteD (fun h => ⟨by decide, by decide, by omega, fun u u0 u1 => ⟨mulW_of (m := 4) (n := 4) (by omega) (by omega) (by decide), ?_⟩⟩) (fun h => ⟨by decide, by decide, by omega, fun u u0 u1 => ⟨log83 (k := 1) (by omega) (by omega) (by decide), m1, by omega, by omega, fun t t0 t1 => ⟨by omega, by omega, ?_⟩⟩⟩)⟩
    · have p1 : (10 : Int) ^ 1 ≤ 10 ^ (m.toNat + 1) := pw_mono (by omega)
      have hv : v = 0 ∨ v = 1 := by omega
      have hm : 0 ≤ v * u ∧ v * u < 10 := by rcases hv with rfl | rfl <;> omega
      exact k _ _ hm.1 (by omega) (by omega)
    obtain ⟨j, rfl⟩ : ∃ j : Nat, u = (j : Int) := ⟨u.toNat, by omega⟩
    have z5 : (100000 : Nat) ≤ sizeLine := by decide
    rw [show (1 : Int) + (j : Int) = ((1 + j : Nat) : Int) by omega]
    refine ⟨fun i ρ O' => ∃ (z : Str) (y : Option D) (n' : Int), O' = updO O W (.well n') ∧ n - 3 - i ≤ n' ∧ digS z ∧ z.length = 1 + i ∧ ρ = [some (D.ref W), some (D.int m), some (D.int v), some (D.str z), y], ⟨_, _, _, rfl, by omega, digS_num (by omega), by rw [len_num (by omega)], rfl⟩, ?_, ?_⟩
    · rintro i d ρ O' hi ⟨z, y, n', rfl, hn', hz, lz, rfl⟩
      obtain ⟨hi, rfl⟩ := rngD_get hi
      walk_at "q"
      refine ⟨by decide, by decide, by omega, fun x x0 x1 => ?_⟩
      obtain ⟨j', rfl⟩ : ∃ j : Nat, x = (j : Int) := ⟨x.toNat, by omega⟩
      refine ⟨log83 (k := 1) (by omega) (by omega) (by decide), by rw [lz, len_num (by omega)]; omega, _, _, _, rfl, by omega, digS_app hz (digS_num (by omega)), by rw [len_app, lz, len_num (by omega)]; omega, rfl, rfl⟩
    · rintro ρ O' ⟨z, y, n', rfl, hn', hz, lz, rfl⟩
      rw [rngD_len] at hn' lz
      walk_at "q"
      have fin : ∀ (z : Str) (n' : Int), digS z → 1 ≤ z.length → z.length ≤ m.toNat + 1 → n - 1000 ≤ n' → ∃ x, PySem.intText? z = some x ∧ z.length ≤ 640 ∧ Q (D.int x) (updO O W (MO.well n')) := fun z n' hz l1 l2 hn' => by
        obtain ⟨x, x1, x2⟩ := int_digS hz l1 (by omega)
        have e : (x : Int) < 10 ^ z.length := by
          rw [pow_nat]
          exact Int.ofNat_lt.mpr x2
        exact ⟨_, x1, by omega, k _ _ (by omega) (Int.lt_of_lt_of_le e (pw_mono l2)) hn'⟩
      refine iteD (fun h4 => ?_) (fun h4 => fin z n' hz (by omega) (by omega) (by omega))
      have ix : ∃ e, atI [D.str (Str.ofString "0"), D.str (Str.ofString "9")] (v - 2) = some (D.str e) ∧ (digS e ∧ e.length = 1) := by
        have hv : v = 2 ∨ v = 3 := by omega
        rcases hv with rfl | rfl
        · exact ⟨_, atI_0, dig1 _ (.inr (.inl rfl))⟩
        · exact ⟨_, atI_1, dig1 _ (.inl rfl)⟩
      obtain ⟨e, i1, e1, e2⟩ := ix
      refine ⟨_, i1, by decide, by decide, by omega, fun x x0 x1 => ⟨e, rfl, mulOk (by omega) (by omega) (by omega), by rw [len_mul e2]; omega, ?_⟩⟩
      have lm := len_mul (k := 1 + x) e2
      have la := len_app z (PySem.Txt.mul e (1 + x))
      have hg := digS_app hz (digS_mul (k := 1 + x) e2 e1)
      generalize z ++ PySem.Txt.mul e (1 + x) = Z at la hg ⊢
      have hc := digS_cut hg none (some m)
      have lcut : (cutS Z none (some m)).length = min m.toNat Z.length := cut_len97 (by omega)
      exact ⟨by omega, fin _ _ hc (by omega) (by omega) (by omega)⟩
end

set_option hygiene false in
local macro_rules | `(tactic| walk_at "q") => `(tactic| simp (config := { maxSteps := 2000000 }) only [g_tens, g_count_digits, g_goes_up, g_rounded_parts, g_overflow, g_finish_zero, g_finish_cut, g_finish_parts, g_etiny, g_etop, g_infinity, g_plain_nan, gQ, g_is_integer, g_is_exponent, g_kept_digits, g_finish, g_nan_of, g_with_sign_sums, g_un, g_signal_of, g_check_between, optT_none, optT_some, dCFld, dCMeth, dInG, dNiG, dInGT, dNiGT, fSortD, fIsLT, fAll, dDcT, dDcL, vD, ex_n', ex_F', ex_N', g_with_one, g_outcome_of, g_is_operation, g_told, g_names_of, g_draw, g_one, g_well, dKw, fCtx, g_law_ten, g_law_parts, g_law_ways, g_law_rules, g_law_context, g_law_digits, g_law_number, dSl, dNoP, dPart, fSlL, fSlR, fSlS, fRepS, fIntS, g_law_is_near, g_law_is_over, g_law_most, g_law_is_cut, dCutS, fRepB, dCSet, dLcK, fInDct, fListD, g_clear_flags, g_flags, g_noted, g_settled, g_meth1, g_meth2, g_meth3, g_law, ite01_or, ite01_dec, g_law_wide_rules, g_law_far_number, g_invalid, g_sign_of_both, g_exact_product, g_bin, optDc_none, optDc_some, g_with_two, g_first_half, g_second_half, dSlK, fSlT, g_law_coefficient, g_law_pair, g_adjusted, g_worth, g_sum_parts, g_added, g_tri, g_law_far_pair, eUnl, g_law_sum, g_law_made, g_law_turned, g_law_three, gOr, g_names_ofL, dCTrp, g_set_traps, g_law_pair2, g_law_whole_right, dApp, eSub, g_law_madeX, g_law_special, g_law_any, g_law_quiet, g_law_is_due, g_law_product, g_law_fma_right, optQ_none, optQ_some, optX_none, optX_some, dLcRM, dLstW, fCatLM, dLcS, g_wellF, g_nan_ofT, g_law_tens, g_law_numberF, g_law_frame, g_law_near, g_law_ground, g_unF, g_law_raised, g_law_over, g_law_finished, g_law_nan, optN_none, optN_some, g_law_due59, g_law_things59, dDisp, dPairs, dGet2, fIxD, g_side_of, g_size_order, g_order_of, g_as_decimal, g_deq1, g_deq2, fEqO, fNeO, g_is_integer2, fIsDecInt, dCallL, dEither, g_pmI, g_finI, g_gcdI, g_ratI, g_cutI, g_sgnI, g_intI, g_law_whole97, g_law_tens92, g_law_size92, g_law_common92, g_law_ratio92, g_law_ints92, g_law_stays92, g_law_tiny92, g_law_zero92, g_law_num92, dSeq, dNext, dCont, dBreak, dNever, dDrop, dRet, dRetN, dIfS, dAsg, dPar, dPar3, dAug, eName, eNil, eCons, eTup, dVar, dC, dOp, dUn, dCl, dTest, dAnd, dOr, dNot, dAndV, dOrV, dNotV, dIf, dChain, dNil, dCons, dTup, dLst, dLstM, dFld, dMeth, dForL, dForT, dForR, dForR2, dLcL, dLcT, dLcR, dYes, dFreeze, fI, fI0, fB, fNeg, fEq, fNe, fEqD, fNeD, fIsN, fNotN, fIn, fNi, fIxT, fIxL, fIxR, fIxM, fCatS, fCatL, fCatT, fRepL, fAbs, fMax, fMin, fInt, fStr, fLenS, fLenT, fLenL, fLenR, fListT, fListL, fTupL, fDivmod, fIs, fIsDec, fIsTup, fDec, fRul, isDecD, isRulD, exOf_int, exOf_d, fltD_non, fltD_bl, fltD_int, fltD_str, fltD_tup, fltD_lst, fltD_dec, fltD_rul, fltD_ref, isIntD_non, isIntD_bl, isIntD_int, isIntD_str, isIntD_tup, isIntD_lst, isIntD_dec, isIntD_rul, isIntD_ref, isNumD_non, isNumD_bl, isNumD_int, isNumD_str, isNumD_tup, isNumD_lst, isNumD_dec, isNumD_rul, isNumD_ref, isBlD_non, isBlD_bl, isBlD_int, isBlD_str, isBlD_tup, isBlD_lst, isBlD_dec, isBlD_rul, isBlD_ref, isStrD_non, isStrD_bl, isStrD_int, isStrD_str, isStrD_tup, isStrD_lst, isStrD_dec, isStrD_rul, isStrD_ref, isNon_non, isNon_bl, isNon_int, isNon_str, isNon_tup, isNon_lst, isNon_dec, isNon_rul, isNon_ref, numD_int, numD_bl, gSign_dec, gCoef_dec, gExp_dec, gPrec_rul, gRnd_rul, gEmin_rul, gEmax_rul, gClamp_rul, sc2_non_non, seq_non_non, eqF_non_non, sc2_non_bl, seq_non_bl, eqF_non_bl, sc2_non_int, seq_non_int, eqF_non_int, sc2_non_str, seq_non_str, eqF_non_str, sc2_bl_non, seq_bl_non, eqF_bl_non, sc2_bl_bl, seq_bl_bl, eqF_bl_bl, eqF_bl_int, sc2_bl_str, seq_bl_str, eqF_bl_str, sc2_int_non, seq_int_non, eqF_int_non, eqF_int_bl, sc2_int_int, seq_int_int, eqF_int_int, sc2_int_str, seq_int_str, eqF_int_str, sc2_str_non, seq_str_non, eqF_str_non, sc2_str_bl, seq_str_bl, eqF_str_bl, sc2_str_int, seq_str_int, eqF_str_int, sc2_str_str, seq_str_str, eqF_str_str, inD_nil, inD_cons, exd_fin, exd_inf, exd_qn, exd_sn, isFin_fin, isFin_inf, isFin_qn, isFin_sn, isInf_fin, isInf_inf, isInf_qn, isInf_sn, isNan_fin, isNan_inf, isNan_qn, isNan_sn, isSn_fin, isSn_inf, isSn_qn, isSn_sn, flt_ex, int_ex, sc_ex, ex_F, ex_n, ex_N, dstart, List.map_cons, List.map_nil, List.append_nil, List.cons_append, List.nil_append, List.length_cons, List.length_nil, List.replicate_succ, List.replicate_zero, List.getElem?_cons_zero, List.getElem?_cons_succ, List.set_cons_zero, List.set_cons_succ, List.all_cons, List.all_nil, Nat.add_one_sub_one, Nat.sub_self, Nat.reduceAdd, Nat.reduceSub, Nat.zero_add, Nat.sub_zero, at1_0', at2_0', at2_1', at3_0', at3_1', at3_2', at5_0', at5_1', at5_2', at5_3', at5_4', updO_same, updO_updO,
  Option.some.injEq, exists_eq_left', exists_eq_left, exists_eq, exists_eq', exists_and_left, exists_and_right, D.int.injEq, D.bl.injEq, D.str.injEq, D.ref.injEq, D.tup.injEq, D.lst.injEq, D.dec.injEq, D.rul.injEq, D.ty.injEq, MO.well.injEq, MO.lst.injEq, MO.ctx.injEq, List.cons.injEq, reduceCtorEq, Nat.reduceLeDiff, and_assoc, and_true, true_and, false_and, and_false, or_false, false_or, Bool.or_false, Bool.false_or, Bool.and_self, Bool.and_true, Bool.true_and, Bool.false_eq_true, if_true, if_false, ite_true, ite_false, Bool.not_true, Bool.not_false, reduceIte, decide_true, decide_false])
set_option hygiene false in
local macro_rules | `(tactic| walk_at "br") => `(tactic| repeat (first | refine ite_yes (by decide +kernel) ?_ | refine ite_no (by decide +kernel) ?_))
set_option hygiene false in
local macro_rules | `(tactic| walk_at "yes") => `(tactic| first | exact k | exact (congrArg (fun b => Q (D.bl b) O) (show _ = true by decide +kernel)).mpr k)

/-! ### k92: ratios and integers -/
/-- Euclid, with so many turns at most -/
def eu : Nat → Nat → Nat → Nat
  | 0, _, _ => 0
  | n + 1, a, b => if b = 0 then a else eu n b (a % b)
theorem mod_half {b r : Nat} (h0 : 0 < r) (h1 : r ≤ b) : 2 * (b % r) < b + 1 ∧ b % r < r := by
  have m1 := Nat.mod_lt b h0
  have e := Nat.div_add_mod b r
  have q : 1 ≤ b / r := (Nat.le_div_iff_mul_le h0).mpr (by omega)
  have : r * 1 ≤ r * (b / r) := Nat.mul_le_mul_left r q
  omega
theorem eu_gcd : ∀ (k n a b : Nat), 2 * k + 1 ≤ n → b < 2 ^ k → eu n a b = Nat.gcd a b
  | 0, n, a, b, hn, hb => by
    obtain ⟨n, rfl⟩ : ∃ j, n = j + 1 := ⟨n - 1, by omega⟩
    have hb : b = 0 := by
      have : b < 1 := hb
      omega
    subst hb
    show (if (0 : Nat) = 0 then a else _) = _
    rw [if_pos rfl, Nat.gcd_zero_right]
  | k + 1, n, a, b, hn, hb => by
    obtain ⟨n, rfl⟩ : ∃ j, n = j + 2 := ⟨n - 2, by omega⟩
    show (if b = 0 then a else if a % b = 0 then b else eu n (a % b) (b % (a % b))) = _
    by_cases h : b = 0
    · rw [if_pos h, h, Nat.gcd_zero_right]
    · rw [if_neg h]
      have g1 : Nat.gcd a b = Nat.gcd b (a % b) := by rw [Nat.gcd_comm a b, Nat.gcd_rec b a, Nat.gcd_comm]
      by_cases h2 : a % b = 0
      · rw [if_pos h2, g1, h2, Nat.gcd_zero_right]
      · rw [if_neg h2, g1]
        have r0 : 0 < a % b := by omega
        have r1 := Nat.mod_lt a (show 0 < b by omega)
        have mh := mod_half r0 (Nat.le_of_lt r1)
        have e2 : 2 ^ (k + 1) = 2 * 2 ^ k := by rw [Nat.pow_succ, Nat.mul_comm]
        rw [eu_gcd k n (a % b) (b % (a % b)) (by omega) (by omega)]
        rw [Nat.gcd_comm b (a % b), Nat.gcd_rec (a % b) b, Nat.gcd_comm]
theorem eu_top {k n a b : Nat} (h : 2 * k + 2 ≤ n) (ha : a < 2 ^ k) : eu n a b = Nat.gcd a b := by
  obtain ⟨n, rfl⟩ : ∃ j, n = j + 1 := ⟨n - 1, by omega⟩
  show (if b = 0 then a else eu n b (a % b)) = _
  by_cases hb : b = 0
  · rw [if_pos hb, hb, Nat.gcd_zero_right]
  · rw [if_neg hb, eu_gcd k n b (a % b) (by omega) (Nat.lt_of_le_of_lt (Nat.mod_le _ _) ha)]
    rw [Nat.gcd_comm a b, Nat.gcd_rec b a, Nat.gcd_comm]
/-- the integers whose quotient a number is -/
def topI (c e : Int) : Int := c * 10 ^ (max e 0).toNat
def botI (e : Int) : Int := 10 ^ (max (-e) 0).toNat
theorem botI_pos (e : Int) : 0 < botI e := pow10_pos _
theorem bp (p : Prop) [Decidable p] : b2i (decide p) = 1 ∧ p ∨ b2i (decide p) = 0 ∧ ¬ p := by
  by_cases h : p
  · exact .inl ⟨by rw [decide_eq_true h]; rfl, h⟩
  · exact .inr ⟨by rw [decide_eq_false h]; rfl, h⟩
theorem cut_spec {c e : Int} (c0 : 0 < c) : (cutI c e).1 = topI c e / botI e ∧ (0 < (cutI c e).2 ↔ 0 < topI c e % botI e) ∧ ((cutI c e).2 = 3 ↔ botI e < 2 * (topI c e % botI e)) ∧ ((cutI c e).2 = 2 ↔ 2 * (topI c e % botI e) = botI e) := by
  unfold cutI topI botI
  rw [if_neg (by omega)]
  by_cases h : 0 ≤ e
  · rw [if_pos h, show max e 0 = e by omega, show (max (-e) 0).toNat = 0 by omega]
    show c * 10 ^ e.toNat = c * 10 ^ e.toNat / 1 ∧ (0 < (0 : Int) ↔ 0 < c * 10 ^ e.toNat % 1) ∧ ((0 : Int) = 3 ↔ 1 < 2 * (c * 10 ^ e.toNat % 1)) ∧ ((0 : Int) = 2 ↔ 2 * (c * 10 ^ e.toNat % 1) = 1)
    generalize c * 10 ^ e.toNat = x
    omega
  · rw [if_neg h, show (max e 0).toNat = 0 by omega, show max (-e) 0 = -e by omega]
    rw [show c * 10 ^ 0 = c from Int.mul_one c]
    have U := pow10_pos (-e).toNat
    by_cases h2 : nd c < -e
    · rw [if_pos h2]
      have l1 := lt_nd (Int.le_of_lt c0)
      have n1 := nd_pos c
      have l2 : (10 : Int) ^ (nd c).toNat * 10 ≤ 10 ^ (-e).toNat := by
        rw [← Int.pow_succ]
        exact pw_mono (by omega)
      rw [Int.ediv_eq_zero_of_lt (Int.le_of_lt c0) (by omega), Int.emod_eq_of_lt (Int.le_of_lt c0) (by omega)]
      refine ⟨rfl, ⟨fun _ => c0, fun _ => by decide⟩, ⟨fun h => (by cases h), fun h => (by omega)⟩, ⟨fun h => (by cases h), fun h => (by omega)⟩⟩
    · rw [if_neg h2]
      have m0 := Int.emod_nonneg c (Int.ne_of_gt U)
      have m1 := Int.emod_lt_of_pos c U
      refine ⟨rfl, ?_⟩
      show (0 < resI c (10 ^ (-e).toNat) ↔ _) ∧ (resI c (10 ^ (-e).toNat) = 3 ↔ _) ∧ (resI c (10 ^ (-e).toNat) = 2 ↔ _)
      unfold resI
      generalize c % 10 ^ (-e).toNat = x at m0 m1 ⊢
      generalize (10 : Int) ^ (-e).toNat = u at U m1 ⊢
      rcases bp (0 < x) with ⟨e1, a1⟩ | ⟨e1, a1⟩ <;> rcases bp (u ≤ 2 * x) with ⟨e2, a2⟩ | ⟨e2, a2⟩ <;> rcases bp (u < 2 * x) with ⟨e3, a3⟩ | ⟨e3, a3⟩ <;> rw [e1, e2, e3] <;> omega
/-- what the law asks of the four integers -/
def IntsOk (s T B : Int) (f : Int × Int × Int × Int) : Prop :=
  f.1 * B ≤ (if s = 1 then -T else T) ∧ (if s = 1 then -T else T) < (f.1 + 1) * B ∧ (f.2.1 - 1) * B < (if s = 1 then -T else T) ∧ (if s = 1 then -T else T) ≤ f.2.1 * B ∧ f.2.2.1 = (if 0 ≤ (if s = 1 then -T else T) then f.1 else f.2.1) ∧
  ((((2 * ((if s = 1 then -T else T) - f.2.2.2 * B)).natAbs : Int) < B) ∨ ((((2 * ((if s = 1 then -T else T) - f.2.2.2 * B)).natAbs : Int) = B) ∧ f.2.2.2 % 2 = 0))
theorem ints_ok {s c e : Int} (hs : s = 0 ∨ s = 1) (c0 : 0 < c) : IntsOk s (topI c e) (botI e) (floI s c e, ceiI s c e, sgnI s (cutI c e).1, neaI s c e) := by
  obtain ⟨h1, h2, h3, h4⟩ := cut_spec (e := e) c0
  have B0 := botI_pos e
  have T0 : 0 < topI c e := Int.mul_pos c0 (pow10_pos _)
  have m0 := Int.emod_nonneg (topI c e) (Int.ne_of_gt B0)
  have m1 := Int.emod_lt_of_pos (topI c e) B0
  have md := Int.mul_ediv_add_emod (topI c e) (botI e)
  unfold floI ceiI neaI
  rw [h1]
  generalize (cutI c e).2 = R at h2 h3 h4 ⊢
  generalize hq : topI c e / botI e = q at md ⊢
  have q0 : 0 ≤ q := by rw [← hq]; exact Int.ediv_nonneg (Int.le_of_lt T0) (Int.le_of_lt B0)
  generalize topI c e % botI e = m at m0 m1 md h2 h3 h4
  generalize topI c e = T at T0 md ⊢
  generalize botI e = B at B0 m1 md h2 h3 h4 ⊢
  have x1 : ∀ z : Int, (z + 1) * B = z * B + B := fun z => by rw [Int.add_mul, Int.one_mul]
  have x2 : ∀ z : Int, (z - 1) * B = z * B - B := fun z => by rw [Int.sub_mul, Int.one_mul]
  have x3 : ∀ z : Int, -z * B = -(z * B) := fun z => Int.neg_mul z B
  have md : q * B + m = T := by rw [Int.mul_comm]; exact md
  -- the three counts
  have bN : b2i (decide (R = 3) || (decide (R = 2) && decide (q % 2 = 1))) = 1 ∧ (B < 2 * m ∨ (2 * m = B ∧ q % 2 = 1)) ∨ b2i (decide (R = 3) || (decide (R = 2) && decide (q % 2 = 1))) = 0 ∧ ¬ (B < 2 * m ∨ (2 * m = B ∧ q % 2 = 1)) := by
    have e : (decide (R = 3) || (decide (R = 2) && decide (q % 2 = 1))) = decide (B < 2 * m ∨ (2 * m = B ∧ q % 2 = 1)) := by
      rw [Bool.eq_iff_iff, Bool.or_eq_true, Bool.and_eq_true, decide_eq_true_eq, decide_eq_true_eq, decide_eq_true_eq, decide_eq_true_eq, h3, h4]
    rw [e]
    exact bp _
  generalize b2i (decide (R = 3) || (decide (R = 2) && decide (q % 2 = 1))) = N at bN ⊢
  rcases hs with rfl | rfl
  · have e1 : b2i (decide (0 < R) && decide ((0 : Int) = 1)) = 0 := by
      rw [decide_eq_false (show ¬ (0 : Int) = 1 by decide), Bool.and_false]
      rfl
    have e2 : (decide (0 < R) && decide ((0 : Int) = 0)) = decide (0 < R) := by
      rw [decide_eq_true (rfl : (0 : Int) = 0), Bool.and_true]
    have sg : ∀ w, sgnI 0 w = w := fun w => by
      unfold sgnI
      rw [if_neg (by decide)]
    rw [e1, e2, sg, sg]
    unfold IntsOk
    rw [if_neg (show ¬ (0 : Int) = 1 by decide)]
    show (q - 0) * B ≤ T ∧ T < (q - 0 + 1) * B ∧ (q + b2i (decide (0 < R)) - 1) * B < T ∧ T ≤ (q + b2i (decide (0 < R))) * B ∧ q = (if 0 ≤ T then q - 0 else q + b2i (decide (0 < R))) ∧ ((((2 * (T - (q + N) * B)).natAbs : Int) < B) ∨ ((((2 * (T - (q + N) * B)).natAbs : Int) = B) ∧ (q + N) % 2 = 0))
    rw [if_pos (show 0 ≤ T by omega), Int.sub_zero, x1]
    refine ⟨by omega, by omega, ?_, ?_, rfl, ?_⟩
    · rcases bp (0 < R) with ⟨e, a⟩ | ⟨e, a⟩ <;> rw [e]
      · rw [show q + 1 - 1 = q by omega]
        omega
      · rw [show q + 0 - 1 = q - 1 by omega, x2]
        omega
    · rcases bp (0 < R) with ⟨e, a⟩ | ⟨e, a⟩ <;> rw [e]
      · rw [x1]
        omega
      · rw [Int.add_zero]
        omega
    · rcases bN with ⟨rfl, a⟩ | ⟨rfl, a⟩
      · rw [x1]
        omega
      · rw [Int.add_zero]
        omega
  · have e1 : (decide (0 < R) && decide ((1 : Int) = 1)) = decide (0 < R) := by
      rw [decide_eq_true (rfl : (1 : Int) = 1), Bool.and_true]
    have e2 : b2i (decide (0 < R) && decide ((1 : Int) = 0)) = 0 := by
      rw [decide_eq_false (show ¬ (1 : Int) = 0 by decide), Bool.and_false]
      rfl
    have sg : ∀ w, sgnI 1 w = -w := fun w => by
      unfold sgnI
      rw [if_pos rfl]
    rw [e1, e2, sg, sg]
    unfold IntsOk
    rw [if_pos rfl]
    show (-q - b2i (decide (0 < R))) * B ≤ -T ∧ -T < (-q - b2i (decide (0 < R)) + 1) * B ∧ (-q + 0 - 1) * B < -T ∧ -T ≤ (-q + 0) * B ∧ -q = (if 0 ≤ -T then -q - b2i (decide (0 < R)) else -q + 0) ∧ ((((2 * (-T - -(q + N) * B)).natAbs : Int) < B) ∨ ((((2 * (-T - -(q + N) * B)).natAbs : Int) = B) ∧ -(q + N) % 2 = 0))
    rw [if_neg (show ¬ 0 ≤ -T by omega), Int.add_zero, x2, x3]
    refine ⟨?_, ?_, by omega, by omega, rfl, ?_⟩
    · rcases bp (0 < R) with ⟨e, a⟩ | ⟨e, a⟩ <;> rw [e]
      · rw [x2, x3]
        omega
      · rw [Int.sub_zero, x3]
        omega
    · rcases bp (0 < R) with ⟨e, a⟩ | ⟨e, a⟩ <;> rw [e]
      · rw [show -q - 1 + 1 = -q by omega, x3]
        omega
      · rw [Int.sub_zero, x1, x3]
        omega
    · rcases bN with ⟨rfl, a⟩ | ⟨rfl, a⟩
      · rw [x3, x1]
        omega
      · rw [Int.add_zero, x3]
        omega
theorem rat_mul {s c e : Int} (c0 : 0 < c) : 0 < (ratI s c e).2 ∧ (ratI s c e).1 * botI e = (ratI s c e).2 * (if s = 1 then -topI c e else topI c e) := by
  have T0 : 0 < topI c e := Int.mul_pos c0 (pow10_pos _)
  have B0 := botI_pos e
  have eT : ((topI c e).toNat : Int) = topI c e := Int.toNat_of_nonneg (Int.le_of_lt T0)
  have eB : ((botI e).toNat : Int) = botI e := Int.toNat_of_nonneg (Int.le_of_lt B0)
  have R : ratI s c e = ((if s = 1 then -topI c e / ((Nat.gcd (topI c e).toNat (botI e).toNat : Nat) : Int) else topI c e / ((Nat.gcd (topI c e).toNat (botI e).toNat : Nat) : Int)), botI e / ((Nat.gcd (topI c e).toNat (botI e).toNat : Nat) : Int)) := by
    unfold ratI
    rw [if_neg (by omega)]
    rfl
  rw [R]
  have gp : 0 < Nat.gcd (topI c e).toNat (botI e).toNat := Nat.gcd_pos_of_pos_left _ (by omega)
  obtain ⟨x, hx⟩ := Nat.gcd_dvd_left (topI c e).toNat (botI e).toNat
  obtain ⟨y, hy⟩ := Nat.gcd_dvd_right (topI c e).toNat (botI e).toNat
  generalize Nat.gcd (topI c e).toNat (botI e).toNat = G at gp hx hy ⊢
  have g0 : (0 : Int) < (G : Int) := by omega
  have T1 : topI c e = (G : Int) * (x : Int) := by rw [← eT, hx]; exact Int.natCast_mul _ _
  have B1 : botI e = (G : Int) * (y : Int) := by rw [← eB, hy]; exact Int.natCast_mul _ _
  have q1 : topI c e / (G : Int) = x := by rw [T1]; exact Int.mul_ediv_cancel_left _ (Int.ne_of_gt g0)
  have q2 : botI e / (G : Int) = y := by rw [B1]; exact Int.mul_ediv_cancel_left _ (Int.ne_of_gt g0)
  have q3 : -topI c e / (G : Int) = -x := by rw [T1, ← Int.mul_neg]; exact Int.mul_ediv_cancel_left _ (Int.ne_of_gt g0)
  show 0 < botI e / (G : Int) ∧ (if s = 1 then -topI c e / (G : Int) else topI c e / (G : Int)) * botI e = botI e / (G : Int) * _
  rw [q1, q2, q3]
  have y0 : 0 < (y : Int) := by
    rcases Int.lt_or_le 0 (y : Int) with h | h
    · exact h
    · have : (y : Int) = 0 := by omega
      rw [this, Int.mul_zero] at B1
      omega
  refine ⟨y0, ?_⟩
  rw [B1, T1]
  split <;> grind
theorem rat_eu {s c e : Int} (c0 : 0 < c) (hT : topI c e < 2 ^ 2998) : eu 6000 (ratI s c e).1.natAbs (ratI s c e).2.natAbs = 1 := by
  have T0 : 0 < topI c e := Int.mul_pos c0 (pow10_pos _)
  have B0 := botI_pos e
  have eT : ((topI c e).toNat : Int) = topI c e := Int.toNat_of_nonneg (Int.le_of_lt T0)
  have eB : ((botI e).toNat : Int) = botI e := Int.toNat_of_nonneg (Int.le_of_lt B0)
  have R : ratI s c e = ((if s = 1 then -topI c e / ((Nat.gcd (topI c e).toNat (botI e).toNat : Nat) : Int) else topI c e / ((Nat.gcd (topI c e).toNat (botI e).toNat : Nat) : Int)), botI e / ((Nat.gcd (topI c e).toNat (botI e).toNat : Nat) : Int)) := by
    unfold ratI
    rw [if_neg (by omega)]
    rfl
  rw [R]
  have gp : 0 < Nat.gcd (topI c e).toNat (botI e).toNat := Nat.gcd_pos_of_pos_left _ (by omega)
  have d1 := Nat.gcd_dvd_left (topI c e).toNat (botI e).toNat
  have d2 := Nat.gcd_dvd_right (topI c e).toNat (botI e).toNat
  have cg := Nat.gcd_div d1 d2
  rw [Nat.div_self gp] at cg
  have hT2 : (topI c e).toNat < 2 ^ 2998 := by
    have : ((2 : Int) ^ 2998) = ((2 ^ 2998 : Nat) : Int) := by simp
    omega
  obtain ⟨x, hx⟩ := d1
  obtain ⟨y, hy⟩ := d2
  generalize Nat.gcd (topI c e).toNat (botI e).toNat = G at gp hx hy cg ⊢
  have g0 : (0 : Int) < (G : Int) := by omega
  have T1 : topI c e = (G : Int) * (x : Int) := by rw [← eT, hx]; exact Int.natCast_mul _ _
  have B1 : botI e = (G : Int) * (y : Int) := by rw [← eB, hy]; exact Int.natCast_mul _ _
  have q1 : topI c e / (G : Int) = x := by rw [T1]; exact Int.mul_ediv_cancel_left _ (Int.ne_of_gt g0)
  have q2 : botI e / (G : Int) = y := by rw [B1]; exact Int.mul_ediv_cancel_left _ (Int.ne_of_gt g0)
  have q3 : -topI c e / (G : Int) = -x := by rw [T1, ← Int.mul_neg]; exact Int.mul_ediv_cancel_left _ (Int.ne_of_gt g0)
  show eu 6000 (if s = 1 then -topI c e / (G : Int) else topI c e / (G : Int)).natAbs (botI e / (G : Int)).natAbs = 1
  rw [q1, q2, q3]
  have ax : (if s = 1 then -(x : Int) else (x : Int)).natAbs = x := by split <;> omega
  rw [ax, Int.natAbs_natCast]
  rw [hx, hy, Nat.mul_div_cancel_left _ gp, Nat.mul_div_cancel_left _ gp] at cg
  have xl : x < 2 ^ 2998 := by
    refine Nat.lt_of_le_of_lt ?_ hT2
    rw [hx]
    exact Nat.le_mul_of_pos_left x gp
  rw [eu_top (k := 2998) (by decide) xl, cg]
theorem digits_ones : ∀ (k acc : Nat), (List.replicate k 48).foldl (fun acc c => acc * 10 + (c - 48)) acc = acc * 10 ^ k
  | 0, acc => by simp
  | k + 1, acc => by
    rw [List.replicate_succ, List.foldl_cons, digits_ones k, Nat.pow_succ, Nat.sub_self, Nat.add_zero, Nat.mul_assoc, Nat.mul_comm 10]
theorem tens_text {m : Nat} (h : m ≤ 4000) : PySem.intText? (Str.ofString "1" ++ Txt.mul (Str.ofString "0") (m : Int)) = some ((10 : Int) ^ m) ∧ (Str.ofString "1" ++ Txt.mul (Str.ofString "0") (m : Int)).length ≤ 4300 := by
  obtain ⟨q1, q2⟩ := dig1 "0" (.inr (.inl rfl))
  obtain ⟨q3, q4⟩ := dig1 "1" (.inr (.inr rfl))
  have hl : (Str.ofString "1" ++ Txt.mul (Str.ofString "0") (m : Int)).length = 1 + m := by
    rw [len_app, len_mul q2, q4, Int.toNat_natCast]
  have c1 : cl (Str.ofString "1") = [49] := rfl
  have c0 : cl (Str.ofString "0") = [48] := rfl
  have cc : cl (Str.ofString "1" ++ Txt.mul (Str.ofString "0") (m : Int)) = 49 :: List.replicate m 48 := by
    have fl : ∀ m : Nat, (List.replicate m [48]).flatten = List.replicate m 48 := fun m => by
      induction m with
      | zero => rfl
      | succ m ih =>
        rw [List.replicate_succ, List.flatten_cons, List.replicate_succ, ih]
        rfl
    rw [cl_app, cl_mul (by omega), c1, c0, Int.toNat_natCast, fl]
    rfl
  refine ⟨?_, by omega⟩
  rw [PySem.intText_digits (digS_app q3 (digS_mul q2 q1)) (fun e => ?_) (by omega)]
  · congr 1
    have e : NumText.digitsVal (cl (Str.ofString "1" ++ Txt.mul (Str.ofString "0") (m : Int))) = 10 ^ m := by
      rw [cc]
      unfold NumText.digitsVal
      rw [List.foldl_cons, digits_ones]
      simp
    have e2 : ((NumText.digitsVal (Str.ofString "1" ++ Txt.mul (Str.ofString "0") (m : Int)).cps.toList : Nat) : Int) = ((10 ^ m : Nat) : Int) := congrArg _ e
    rw [e2]
    simp
  · have : (cl (Str.ofString "1" ++ Txt.mul (Str.ofString "0") (m : Int))).length = 0 := by
      show List.length (Str.cps _).toList = 0
      rw [e]
      rfl
    rw [cc] at this
    simp at this
structure MidQ (r : Ru) : Prop where
  w : WideQ r 30
  lo : -999999 ≤ r.emin
  hi : r.emax ≤ 999999
/-- an outcome as these laws hold it: the parts, and the tuple of the signals -/
def g_law_tens92 : List D → Ow → DK → Prop := fun ds O P => ∃ i, ds = [.int i] ∧ 0 ≤ i ∧ i ≤ 4000 ∧ P (.int (10 ^ i.toNat)) O
def g_law_size92 : List D → Ow → DK → Prop := fun ds O P => ∃ n, ds = [.int n] ∧ 0 ≤ n ∧ nd n ≤ 1500 ∧ P (.int (nd n)) O
def g_law_common92 : List D → Ow → DK → Prop := fun ds O P => ∃ x y : Int, ds = [.int x, .int y] ∧ P (.int (eu 6000 x.natAbs y.natAbs : Nat)) O
/-- a drawn number -/
structure N92 (s c e : Int) : Prop where
  sg : s = 0 ∨ s = 1
  c0 : 0 < c
  cn : nd c ≤ 1000
  e0 : -3050 ≤ e
  e1 : e ≤ 100
def g_law_ratio92 : List D → Ow → DK → Prop := fun ds O P => ∃ s c e, ds = [.dec ⟨s, c, .fin e⟩] ∧ N92 s c e ∧ eu 6000 (ratI s c e).1.natAbs (ratI s c e).2.natAbs = 1 ∧ P (.bl true) O
def g_law_ints92 : List D → Ow → DK → Prop := fun ds O P => ∃ s c e, ds = [.dec ⟨s, c, .fin e⟩, .int (if s = 1 then -topI c e else topI c e), .int (botI e)] ∧ N92 s c e ∧ P (.bl true) O
def g_law_stays92 : List D → Ow → DK → Prop := fun ds O P => ∃ s c e, ds = [.dec ⟨s, c, .fin e⟩] ∧ N92 s c e ∧ P (.bl true) O
def g_law_tiny92 : List D → Ow → DK → Prop := fun ds O P => ∃ s c e, ds = [.dec ⟨s, c, .fin e⟩] ∧ (s = 0 ∨ s = 1) ∧ 0 < c ∧ nd c ≤ 1000 ∧ nd c < -e ∧ P (.bl true) O
def g_law_zero92 : List D → Ow → DK → Prop := fun ds O P => ∃ W s, ds = [.ref W, .int s] ∧ ∃ n, O W = some (.well n) ∧ 10 ≤ n ∧ (s = 0 ∨ s = 1) ∧ ∀ n', n - 10 ≤ n' → P (.bl true) (updO O W (.well n'))
def g_law_num92 : List D → Ow → DK → Prop := fun ds O P => ∃ W, ds = [.ref W] ∧ ∃ n, O W = some (.well n) ∧ 20000 ≤ n ∧ ∀ s c e n', N92 s c e → topI c e < 2 ^ 2998 → n - 3000 ≤ n' → P (.dec ⟨s, c, .fin e⟩) (updO O W (.well n'))
theorem N92.big {s c e : Int} (g : N92 s c e) : topI c e < 10 ^ 1101 ∧ 0 < topI c e ∧ botI e < 10 ^ 3051 := by
  have c0 := g.c0
  have cl := lt_nd (Int.le_of_lt c0)
  have e1 := g.e1
  have e0 := g.e0
  have cn := g.cn
  refine ⟨?_, Int.mul_pos c0 (pow10_pos _), ?_⟩
  · have h1 : c * 10 ^ (max e 0).toNat < 10 ^ (nd c).toNat * 10 ^ (max e 0).toNat := Int.mul_lt_mul_of_pos_right cl (pow10_pos _)
    rw [← Int.pow_add] at h1
    exact Int.lt_of_lt_of_le h1 (pw_mono (by omega))
  · refine Int.lt_of_le_of_lt (pw_mono (show (max (-e) 0).toNat ≤ 3050 by omega)) ?_
    have : (10 : Int) ^ 3051 = 10 ^ 3050 * 10 := Int.pow_succ ..
    have p := pow10_pos 3050
    rw [this]
    generalize (10 : Int) ^ 3050 = z at p ⊢
    omega
theorem b2i01 (b : Bool) : b2i b = 0 ∨ b2i b = 1 := by cases b <;> simp [b2i]
theorem N92.ints {s c e : Int} (g : N92 s c e) : (floI s c e).natAbs < 10 ^ 1102 ∧ (ceiI s c e).natAbs < 10 ^ 1102 ∧ (neaI s c e).natAbs < 10 ^ 1102 ∧ (sgnI s (cutI c e).1).natAbs < 10 ^ 1102 := by
  obtain ⟨h1, _⟩ := cut_spec (e := e) g.c0
  obtain ⟨b1, b2, _⟩ := g.big
  have B0 := botI_pos e
  have q0 : 0 ≤ topI c e / botI e := Int.ediv_nonneg (Int.le_of_lt b2) (Int.le_of_lt B0)
  have q1 : topI c e / botI e ≤ topI c e := Int.ediv_le_self _ (Int.le_of_lt b2)
  have pz : (10 : Int) ^ 1102 = 10 ^ 1101 * 10 := Int.pow_succ ..
  have p1 := pow10_pos 1101
  have na : ∀ z : Int, -(10 ^ 1101 + 1) ≤ z → z ≤ 10 ^ 1101 + 1 → z.natAbs < 10 ^ 1102 := fun z z0 z1 => by
    have e : ((10 ^ 1102 : Nat) : Int) = 10 ^ 1102 := by simp
    have p2 : (10 : Int) ^ 1 ≤ 10 ^ 1101 := pw_mono (by decide)
    rw [pz] at e
    generalize (10 : Int) ^ 1101 = w at *
    generalize 10 ^ 1102 = u at *
    omega
  unfold floI ceiI neaI sgnI
  rw [h1]
  have x1 := b2i01 (decide (0 < (cutI c e).2) && decide (s = 1))
  have x2 := b2i01 (decide (0 < (cutI c e).2) && decide (s = 0))
  have x3 := b2i01 (decide ((cutI c e).2 = 3) || (decide ((cutI c e).2 = 2) && decide (topI c e / botI e % 2 = 1)))
  generalize b2i (decide (0 < (cutI c e).2) && decide (s = 1)) = y1 at x1 ⊢
  generalize b2i (decide (0 < (cutI c e).2) && decide (s = 0)) = y2 at x2 ⊢
  generalize b2i (decide ((cutI c e).2 = 3) || (decide ((cutI c e).2 = 2) && decide (topI c e / botI e % 2 = 1))) = y3 at x3 ⊢
  generalize topI c e / botI e = q at q0 q1 ⊢
  generalize topI c e = T at b1 q1
  generalize (10 : Int) ^ 1101 = w at *
  refine ⟨na _ ?_ ?_, na _ ?_ ?_, na _ ?_ ?_, na _ ?_ ?_⟩ <;> split <;> omega
theorem tiny_vals {s c e : Int} (hs : s = 0 ∨ s = 1) (c0 : 0 < c) (hx : nd c < -e) : floI s c e = (if s = 1 then -1 else 0) ∧ ceiI s c e = (if s = 1 then 0 else 1) ∧ sgnI s (cutI c e).1 = 0 ∧ neaI s c e = 0 := by
  have n1 := nd_pos c
  have C : cutI c e = (0, 1) := by
    unfold cutI
    rw [if_neg (by omega), if_neg (by omega), if_pos hx]
  unfold floI ceiI neaI
  rw [C]
  rcases hs with rfl | rfl <;> decide +kernel
theorem zero_vals (s e : Int) (hs : s = 0 ∨ s = 1) : floI s 0 e = 0 ∧ ceiI s 0 e = 0 ∧ sgnI s (cutI 0 e).1 = 0 ∧ neaI s 0 e = 0 ∧ ratI s 0 e = (0, 1) := by
  have C : cutI 0 e = (0, 0) := by
    unfold cutI
    rw [if_pos rfl]
  have R : ratI s 0 e = (0, 1) := by
    unfold ratI
    rw [if_pos rfl]
  unfold floI ceiI neaI
  rw [C, R]
  rcases hs with rfl | rfl <;> decide +kernel

set_option hygiene false in
local macro_rules | `(tactic| walk_at "q") => `(tactic| simp (config := { maxSteps := 2000000 }) only [g_tens, g_count_digits, g_goes_up, g_rounded_parts, g_overflow, g_finish_zero, g_finish_cut, g_finish_parts, g_etiny, g_etop, g_infinity, g_plain_nan, gQ, g_is_integer, g_is_exponent, g_kept_digits, g_finish, g_nan_of, g_with_sign_sums, g_un, g_signal_of, g_check_between, optT_none, optT_some, dCFld, dCMeth, dInG, dNiG, dInGT, dNiGT, fSortD, fIsLT, fAll, dDcT, dDcL, vD, ex_n', ex_F', ex_N', g_with_one, g_outcome_of, g_is_operation, g_told, g_names_of, g_draw, g_one, g_well, dKw, fCtx, g_law_ten, g_law_parts, g_law_ways, g_law_rules, g_law_context, g_law_digits, g_law_number, dSl, dNoP, dPart, fSlL, fSlR, fSlS, fRepS, fIntS, g_law_is_near, g_law_is_over, g_law_most, g_law_is_cut, dCutS, fRepB, dCSet, dLcK, fInDct, fListD, g_clear_flags, g_flags, g_noted, g_settled, g_meth1, g_meth2, g_meth3, g_law, ite01_or, ite01_dec, g_law_wide_rules, g_law_far_number, g_invalid, g_sign_of_both, g_exact_product, g_bin, optDc_none, optDc_some, g_with_two, g_first_half, g_second_half, dSlK, fSlT, g_law_coefficient, g_law_pair, g_adjusted, g_worth, g_sum_parts, g_added, g_tri, g_law_far_pair, eUnl, g_law_sum, g_law_made, g_law_turned, g_law_three, gOr, g_names_ofL, dCTrp, g_set_traps, g_law_pair2, g_law_whole_right, dApp, eSub, g_law_madeX, g_law_special, g_law_any, g_law_quiet, g_law_is_due, g_law_product, g_law_fma_right, optQ_none, optQ_some, optX_none, optX_some, dLcRM, dLstW, fCatLM, dLcS, g_wellF, g_nan_ofT, g_law_tens, g_law_numberF, g_law_frame, g_law_near, g_law_ground, g_unF, g_law_raised, g_law_over, g_law_finished, g_law_nan, optN_none, optN_some, g_law_due59, g_law_things59, dDisp, dPairs, dGet2, fIxD, g_side_of, g_size_order, g_order_of, g_as_decimal, g_deq1, g_deq2, fEqO, fNeO, g_is_integer2, fIsDecInt, dCallL, dEither, g_pmI, g_finI, g_gcdI, g_ratI, g_cutI, g_sgnI, g_intI, g_law_whole97, g_law_tens92, g_law_size92, g_law_common92, g_law_ratio92, g_law_ints92, g_law_stays92, g_law_tiny92, g_law_zero92, g_law_num92, fIntB, fStrB, dSeq, dNext, dCont, dBreak, dNever, dDrop, dRet, dRetN, dIfS, dAsg, dPar, dPar3, dAug, eName, eNil, eCons, eTup, dVar, dC, dOp, dUn, dCl, dTest, dAnd, dOr, dNot, dAndV, dOrV, dNotV, dIf, dChain, dNil, dCons, dTup, dLst, dLstM, dFld, dMeth, dForL, dForT, dForR, dForR2, dLcL, dLcT, dLcR, dYes, dFreeze, fI, fI0, fB, fNeg, fEq, fNe, fEqD, fNeD, fIsN, fNotN, fIn, fNi, fIxT, fIxL, fIxR, fIxM, fCatS, fCatL, fCatT, fRepL, fAbs, fMax, fMin, fInt, fStr, fLenS, fLenT, fLenL, fLenR, fListT, fListL, fTupL, fDivmod, fIs, fIsDec, fIsTup, fDec, fRul, isDecD, isRulD, exOf_int, exOf_d, fltD_non, fltD_bl, fltD_int, fltD_str, fltD_tup, fltD_lst, fltD_dec, fltD_rul, fltD_ref, isIntD_non, isIntD_bl, isIntD_int, isIntD_str, isIntD_tup, isIntD_lst, isIntD_dec, isIntD_rul, isIntD_ref, isNumD_non, isNumD_bl, isNumD_int, isNumD_str, isNumD_tup, isNumD_lst, isNumD_dec, isNumD_rul, isNumD_ref, isBlD_non, isBlD_bl, isBlD_int, isBlD_str, isBlD_tup, isBlD_lst, isBlD_dec, isBlD_rul, isBlD_ref, isStrD_non, isStrD_bl, isStrD_int, isStrD_str, isStrD_tup, isStrD_lst, isStrD_dec, isStrD_rul, isStrD_ref, isNon_non, isNon_bl, isNon_int, isNon_str, isNon_tup, isNon_lst, isNon_dec, isNon_rul, isNon_ref, numD_int, numD_bl, gSign_dec, gCoef_dec, gExp_dec, gPrec_rul, gRnd_rul, gEmin_rul, gEmax_rul, gClamp_rul, sc2_non_non, seq_non_non, eqF_non_non, sc2_non_bl, seq_non_bl, eqF_non_bl, sc2_non_int, seq_non_int, eqF_non_int, sc2_non_str, seq_non_str, eqF_non_str, sc2_bl_non, seq_bl_non, eqF_bl_non, sc2_bl_bl, seq_bl_bl, eqF_bl_bl, eqF_bl_int, sc2_bl_str, seq_bl_str, eqF_bl_str, sc2_int_non, seq_int_non, eqF_int_non, eqF_int_bl, sc2_int_int, seq_int_int, eqF_int_int, sc2_int_str, seq_int_str, eqF_int_str, sc2_str_non, seq_str_non, eqF_str_non, sc2_str_bl, seq_str_bl, eqF_str_bl, sc2_str_int, seq_str_int, eqF_str_int, sc2_str_str, seq_str_str, eqF_str_str, inD_nil, inD_cons, exd_fin, exd_inf, exd_qn, exd_sn, isFin_fin, isFin_inf, isFin_qn, isFin_sn, isInf_fin, isInf_inf, isInf_qn, isInf_sn, isNan_fin, isNan_inf, isNan_qn, isNan_sn, isSn_fin, isSn_inf, isSn_qn, isSn_sn, flt_ex, int_ex, sc_ex, ex_F, ex_n, ex_N, dstart, List.map_cons, List.map_nil, List.append_nil, List.cons_append, List.nil_append, List.length_cons, List.length_nil, List.replicate_succ, List.replicate_zero, List.getElem?_cons_zero, List.getElem?_cons_succ, List.set_cons_zero, List.set_cons_succ, List.all_cons, List.all_nil, Nat.add_one_sub_one, Nat.sub_self, Nat.reduceAdd, Nat.reduceSub, Nat.zero_add, Nat.sub_zero, at1_0', at2_0', at2_1', at3_0', at3_1', at3_2', at5_0', at5_1', at5_2', at5_3', at5_4', updO_same, updO_updO,
  Option.some.injEq, exists_eq_left', exists_eq_left, exists_eq, exists_eq', exists_and_left, exists_and_right, D.int.injEq, D.bl.injEq, D.str.injEq, D.ref.injEq, D.tup.injEq, D.lst.injEq, D.dec.injEq, D.rul.injEq, D.ty.injEq, MO.well.injEq, MO.lst.injEq, MO.ctx.injEq, List.cons.injEq, reduceCtorEq, Nat.reduceLeDiff, and_assoc, and_true, true_and, false_and, and_false, or_false, false_or, Bool.or_false, Bool.false_or, Bool.and_self, Bool.and_true, Bool.true_and, Bool.false_eq_true, if_true, if_false, ite_true, ite_false, Bool.not_true, Bool.not_false, reduceIte, decide_true, decide_false])
set_option hygiene false in
local macro_rules | `(tactic| walk_at "br") => `(tactic| repeat (first | refine ite_yes (by decide +kernel) ?_ | refine ite_no (by decide +kernel) ?_))
set_option hygiene false in
local macro_rules | `(tactic| walk_at "yes") => `(tactic| first | exact k | exact (congrArg (fun b => Q (D.bl b) O) (show _ = true by decide +kernel)).mpr k)

section
variable {P : Program} {w : World} {K : PySem.W.Frag} {mg : Str → Option Value} {base : Heap}
theorem ok__law_tens (T : Tx K mg) : OkP P w K mg base 1 ("_law_tens", none) ["_law_many"] g_law_tens92 := by
  obtain ⟨fd, F⟩ := T.d__law_tens
  refine ⟨fd, okP (k := 0) F sc__law_tens (fun cdv A outer s H E hr => PSs.nox ((qss_one (qs_ret (q_ct (call_intB T.dg) c_intB (by rfl) T.n_int (by decide +kernel) (qa_cons (q_op op_add_str r_catS (q_str pe_str) (q_op op_repS r_repS (q_str pe_str) (q_var (pv 0)))) qa_nil)))))) (fun ds O Q h => ?_) (fun ds O Q h => ?_), F.bindsN (fun _ _ _ _ _ _ us hl => match us, hl with | [_], _ => rfl), F.kp⟩
  · obtain ⟨i, rfl, _⟩ := h
    rfl
  · obtain ⟨i, rfl, h0, h1, k⟩ := h
    obtain ⟨m, rfl⟩ : ∃ m : Nat, i = (m : Int) := ⟨i.toNat, by omega⟩
    rw [Int.toNat_natCast] at k
    obtain ⟨t1, t2⟩ := tens_text (m := m) (by omega)
    walk_at "q"
    obtain ⟨q1, q2⟩ := dig1 "0" (.inr (.inl rfl))
    obtain ⟨q3, q4⟩ := dig1 "1" (.inr (.inr rfl))
    refine ⟨mulOk (by omega) (by omega) (by decide), ?_, _, t1, t2, k⟩
    rw [q4, len_mul q2, Int.toNat_natCast]
    have hz : (100000 : Nat) ≤ sizeLine := by decide
    omega
theorem ok__law_size (T : Tx K mg) : OkP P w K mg base 1 ("_law_size", none) ["_law_number_here"] g_law_size92 := by
  obtain ⟨fd, F⟩ := T.d__law_size
  refine ⟨fd, okP (k := 0) F sc__law_size (fun cdv A outer s H E hr => PSs.nox ((qss_one (qs_ret (q_cb call_len_str c_lenS (by rfl) T.n_len (by decide +kernel) (qa_cons (q_ct (call_strB (by rfl) T.dg) c_strB (by rfl) T.n_str (by decide +kernel) (qa_cons (q_var (pv 0)) qa_nil)) qa_nil)))))) (fun ds O Q h => ?_) (fun ds O Q h => ?_), F.bindsN (fun _ _ _ _ _ _ us hl => match us, hl with | [_], _ => rfl), F.kp⟩
  · obtain ⟨n, rfl, _⟩ := h
    rfl
  · obtain ⟨n, rfl, h0, h1, k⟩ := h
    obtain ⟨m, rfl⟩ : ∃ m : Nat, n = (m : Int) := ⟨n.toNat, by omega⟩
    have l := natAbs_lt h0 (lt_nd h0)
    have l2 : (m : Int).natAbs < 10 ^ 4300 := Nat.lt_of_lt_of_le l (Nat.pow_le_pow_right (by decide) (by omega))
    have hz : (100000 : Nat) ≤ sizeLine := by decide
    have hn : ndg m ≤ 1500 := by rw [nd_nat] at h1; omega
    walk_at "q"
    refine ⟨l2, by rw [len_str]; omega, ?_⟩
    rw [len_str, ← nd_nat]
    exact k
theorem ok__law_common (T : Tx K mg) : OkP P w K mg base 1 ("_law_common", none) ["_law_one", "_law_other"] g_law_common92 := by
  obtain ⟨fd, F⟩ := T.d__law_common
  refine ⟨fd, okP (k := 0) F sc__law_common (fun cdv A outer s H E hr => PSs.nox ((qss_cons (qs_par (ps_par (i := 0) (j := 1) (by rfl) sc__law_common.nd rfl rfl (by decide) rfl rfl (qa_cons (q_cb abs_i c_abs (by rfl) T.n_abs (by decide +kernel) (qa_cons (q_var (pv 0)) qa_nil)) (qa_cons (q_cb abs_i c_abs (by rfl) T.n_abs (by decide +kernel) (qa_cons (q_var (pv 1)) qa_nil)) qa_nil)) (by rfl)))
 (qss_cons (qs_forR (ps_for PassesOwn.never rfl (pi_range1 (by rfl) T.n_range (qa_cons (q_int pe_int) qa_nil)) (qg_name (pg_name (i := 2) sc__law_common.nd rfl (Or.inl rfl)))
 (qss_cons (qs_if (qt_cmp op_eq r_eq (q_var (pv 1)) (q_int pe_int) (nomark _))
 (qss_one (qs_ret (q_var (pv 0))))
 qss_nil)
 (qss_one (qs_par (ps_par (i := 0) (j := 1) (by rfl) sc__law_common.nd rfl rfl (by decide) rfl rfl (qa_cons (q_var (pv 1)) (qa_cons (q_op op_mod r_I (q_ct int_1 c_int (by rfl) T.n_int (by decide +kernel) (qa_cons (q_var (pv 0)) qa_nil)) (q_var (pv 1))) qa_nil)) (by rfl)))))))
 (qss_one (qs_ret (q_int pe_int))))))) (fun ds O Q h => ?_) (fun ds O Q h => ?_), F.bindsN (fun _ _ _ _ _ _ us hl => match us, hl with | [_, _], _ => rfl), F.kp⟩
  · obtain ⟨x, y, rfl, _⟩ := h
    rfl
  · obtain ⟨x, y, rfl, k⟩ := h
    walk_at "q"
    refine ⟨by decide, by decide, fun i ρ O' => O = O' ∧ ∃ (a b : Nat) (s2 : Option D), ρ = [some (.int (a : Int)), some (.int (b : Int)), s2] ∧ eu (6000 - i) a b = eu 6000 x.natAbs y.natAbs, ⟨rfl, _, _, _, rfl, rfl⟩, ?_, ?_⟩
    · rintro i d ρ O' hi ⟨rfl, a, b, s2, rfl, he⟩
      have hi6 : i < 6000 := (rngD_get hi).1
      obtain ⟨j, hj⟩ : ∃ j, 6000 - i = j + 1 := ⟨6000 - i - 1, by omega⟩
      rw [hj] at he
      have he : (if b = 0 then a else eu j b (a % b)) = eu 6000 x.natAbs y.natAbs := he
      walk_at "q"
      refine iteD (fun h => ?_) fun h => ?_
      · rw [if_pos (by omega)] at he
        rw [← he] at k
        exact k
      · rw [if_neg (by omega)] at he
        refine ⟨by omega, b, rfl, a % b, (Int.natCast_emod _ _).symm, ?_⟩
        rw [← he, show 6000 - (i + 1) = j by omega]
    · rintro ρ O' ⟨rfl, a, b, s2, rfl, he⟩
      have he : eu 0 a b = eu 6000 x.natAbs y.natAbs := he
      have he : 0 = eu 6000 x.natAbs y.natAbs := he
      walk_at "q"
      rw [← he] at k
      exact k
theorem ok__law_ratio_right (T : Tx K mg) : OkP P w K mg base 8 ("_law_ratio_right", none) ["_law_a"] g_law_ratio92 := by
  obtain ⟨fd_ratio, G_ratio, b_ratio, k_ratio⟩ := ok_ratio (P := P) (w := w) (base := base) T
  obtain ⟨fd__law_common, G__law_common, b__law_common, k__law_common⟩ := ok__law_common (P := P) (w := w) (base := base) T
  obtain ⟨fd__law_tens, G__law_tens, b__law_tens, k__law_tens⟩ := ok__law_tens (P := P) (w := w) (base := base) T
  obtain ⟨fd, F⟩ := T.d__law_ratio_right
  refine ⟨fd, okP (k := 7) F sc__law_ratio_right (fun cdv A outer s H E hr => PSs.nox ((qss_cons (qs_set (ps_set (i := 1) sc__law_ratio_right.nd rfl (Or.inl rfl) (q_call G_ratio (hr.mono (by decide)) (by rfl) T.g_ratio k_ratio b_ratio (qa_cons (q_var (pv 0)) qa_nil))))
 (qss_cons (qs_if (PW.pt (qt_or (qt_not (qt_val (q_cb isi_tupleX c_isTup (by rfl) T.n_isinstance (by decide +kernel) (qa_cons (q_var (pv 1)) (qa_cons (q_ty (pe_bltn (v := .ty "tuple") (by rfl) T.n_tuple (by decide +kernel) rfl)) qa_nil))))) (qt_or (qt_cmp op_ne r_ne (q_cb call_len_seq c_lenT (by rfl) T.n_len (by decide +kernel) (qa_cons (q_var (pv 1)) qa_nil)) (q_int pe_int) (nomark _)) (qt_or (qt_cmp op_le r_B (q_ix ix_tup r_ixT (q_var (pv 1)) (q_int pe_int) (fun _ _ => rfl)) (q_int pe_int) (nomark _)) (qt_or1 (qt_cmp op_ne r_ne (q_call G__law_common (hr.mono (by decide)) (by rfl) T.g__law_common k__law_common b__law_common (qa_cons (q_ix ix_tup r_ixT (q_var (pv 1)) (q_int pe_int) (fun _ _ => rfl)) (qa_cons (q_ix ix_tup r_ixT (q_var (pv 1)) (q_int pe_int) (fun _ _ => rfl)) qa_nil))) (q_int pe_int) (nomark _)))))))
 (qss_one (qs_ret (q_bl pe_bl)))
 qss_nil)
 (qss_cons (qs_set (ps_set (i := 2) sc__law_ratio_right.nd rfl (Or.inl rfl) (q_op op_sub r_I0 (q_int pe_int) (q_op op_mulW r_I (q_int pe_int) (q_fld f_sign T.cl_Decimal T.no_Decimal_sign (q_var (pv 0)))))))
 (qss_cons (qs_par (ps_par (i := 3) (j := 4) (by rfl) sc__law_ratio_right.nd rfl rfl (by decide) rfl rfl (qa_cons (q_op op_mulW r_I (q_op op_mulW r_I (q_var (pv 2)) (q_fld f_coef T.cl_Decimal T.no_Decimal_coefficient (q_var (pv 0)))) (q_call G__law_tens (hr.mono (by decide)) (by rfl) T.g__law_tens k__law_tens b__law_tens (qa_cons (q_cb (max_i rfl) c_max (by rfl) T.n_max (by decide +kernel) (qa_cons (q_fld f_exp T.cl_Decimal T.no_Decimal_exponent (q_var (pv 0))) (qa_cons (q_int pe_int) qa_nil))) qa_nil))) (qa_cons (q_call G__law_tens (hr.mono (by decide)) (by rfl) T.g__law_tens k__law_tens b__law_tens (qa_cons (q_cb (max_i rfl) c_max (by rfl) T.n_max (by decide +kernel) (qa_cons (q_un un_neg r_neg (q_fld f_exp T.cl_Decimal T.no_Decimal_exponent (q_var (pv 0)))) (qa_cons (q_int pe_int) qa_nil))) qa_nil)) qa_nil)) (by rfl)))
 (qss_one (qs_ret (q_cmp op_eq r_eq (q_op op_mulW r_I (q_ix ix_tup r_ixT (q_var (pv 1)) (q_int pe_int) (fun _ _ => rfl)) (q_var (pv 4))) (q_op op_mulW r_I (q_ix ix_tup r_ixT (q_var (pv 1)) (q_int pe_int) (fun _ _ => rfl)) (q_var (pv 3))) (nomark _)))))))))) (fun ds O Q h => ?_) (fun ds O Q h => ?_), F.bindsN (fun _ _ _ _ _ _ us hl => match us, hl with | [_], _ => rfl), F.kp⟩
  · obtain ⟨s, c, e, rfl, _⟩ := h
    rfl
  · obtain ⟨s, c, e, rfl, g, he, k⟩ := h
    walk_at "q"
    have c0 := g.c0
    have e0 := g.e0
    have e1 := g.e1
    have cn := g.cn
    have sg := g.sg
    obtain ⟨b1, b2, b3⟩ := g.big
    have B0 := botI_pos e
    obtain ⟨r0, r1⟩ := rat_mul (s := s) (e := e) c0
    have cl : c.natAbs < 10 ^ 1000 := natAbs_lt (Int.le_of_lt c0) (Int.lt_of_lt_of_le (lt_nd (Int.le_of_lt c0)) (pw_mono (by omega)))
    have sT : (1 - 2 * s) * c * 10 ^ (max e 0).toNat = if s = 1 then -topI c e else topI c e := by
      show _ = if s = 1 then -(c * 10 ^ (max e 0).toNat) else c * 10 ^ (max e 0).toNat
      rcases sg with rfl | rfl
      · rw [if_neg (by decide), show (1 - 2 * (0 : Int)) = 1 by decide, Int.one_mul]
      · rw [if_pos rfl, show (1 - 2 * (1 : Int)) = -1 by decide, Int.neg_mul, Int.one_mul, Int.neg_mul]
    have szT : ((1 - 2 * s) * c * 10 ^ (max e 0).toNat).natAbs < 10 ^ 1101 := by
      rw [sT]
      have := natAbs_lt (Int.le_of_lt b2) b1
      split <;> omega
    have sc : ((1 - 2 * s) * c).natAbs < 10 ^ 1000 := by
      rcases sg with rfl | rfl
      · rw [show (1 - 2 * (0 : Int)) = 1 by decide, Int.one_mul]
        exact cl
      · rw [show (1 - 2 * (1 : Int)) = -1 by decide, Int.neg_mul, Int.one_mul, Int.natAbs_neg]
        exact cl
    have G0 : ∀ n : Nat, (0 : Int) ≤ (n : Int) := fun n => Int.natCast_nonneg n
    have rs1 : (ratI s c e).1.natAbs < 10 ^ 1101 := by
      unfold ratI
      rw [if_neg (by omega)]
      show (if s = 1 then -topI c e / _ else topI c e / _).natAbs < 10 ^ 1101
      have tl := natAbs_lt (Int.le_of_lt b2) b1
      split
      · exact Nat.lt_of_le_of_lt (by rw [← Int.natAbs_neg (topI c e)]; exact Int.natAbs_ediv_le_natAbs _ _) tl
      · exact Nat.lt_of_le_of_lt (Int.natAbs_ediv_le_natAbs _ _) tl
    have rs2 : (ratI s c e).2.natAbs < 10 ^ 3051 := by
      unfold ratI
      rw [if_neg (by omega)]
      exact Nat.lt_of_le_of_lt (Int.natAbs_ediv_le_natAbs _ _) (natAbs_lt (Int.le_of_lt B0) b3)
    have bz : ((10 : Int) ^ (max (-e) 0).toNat).natAbs < 10 ^ 3051 := natAbs_lt (Int.le_of_lt B0) b3
    refine ⟨s, c, e, rfl, Int.le_of_lt c0, by omega, .inr ⟨by omega, by omega⟩, ite_no (by decide) (iteD (fun h => absurd h (by omega)) fun _ => ite_no (by rw [he]; decide) ⟨mulW_of (m := 1) (n := 1) (by decide) (by omega) (by decide), mulW_of (m := 1) (by omega) cl (by decide), by omega, by omega, mulW_of (n := 101) sc (by rw [abs10]; exact Nat.pow_lt_pow_right (by decide) (by omega)) (by decide), by omega, by omega, mulW_of rs1 bz (by decide), mulW_of rs2 szT (by decide), ?_⟩)⟩
    rw [sT]
    rw [decide_eq_true (show (ratI s c e).1 * 10 ^ (max (-e) 0).toNat = _ from r1)]
    exact k
theorem ok__law_integers_right (T : Tx K mg) : OkP P w K mg base 8 ("_law_integers_right", none) ["_law_a", "_law_top", "_law_bottom"] g_law_ints92 := by
  obtain ⟨fd_nearest, G_nearest, b_nearest, k_nearest⟩ := ok_nearest (P := P) (w := w) (base := base) T
  obtain ⟨fd_truncated, G_truncated, b_truncated, k_truncated⟩ := ok_truncated (P := P) (w := w) (base := base) T
  obtain ⟨fd_ceiled, G_ceiled, b_ceiled, k_ceiled⟩ := ok_ceiled (P := P) (w := w) (base := base) T
  obtain ⟨fd_floored, G_floored, b_floored, k_floored⟩ := ok_floored (P := P) (w := w) (base := base) T
  obtain ⟨fd, F⟩ := T.d__law_integers_right
  refine ⟨fd, okP (k := 7) F sc__law_integers_right (fun cdv A outer s H E hr => PSs.nox ((qss_cons (qs_asg (q_tup (qa_cons (q_call G_floored (hr.mono (by decide)) (by rfl) T.g_floored k_floored b_floored (qa_cons (q_var (pv 0)) qa_nil)) (qa_cons (q_call G_ceiled (hr.mono (by decide)) (by rfl) T.g_ceiled k_ceiled b_ceiled (qa_cons (q_var (pv 0)) qa_nil)) (qa_cons (q_call G_truncated (hr.mono (by decide)) (by rfl) T.g_truncated k_truncated b_truncated (qa_cons (q_var (pv 0)) qa_nil)) (qa_cons (q_call G_nearest (hr.mono (by decide)) (by rfl) T.g_nearest k_nearest b_nearest (qa_cons (q_var (pv 0)) qa_nil)) qa_nil))))) (qg_tup (n := 4) (by rfl) (qgs_cons (qg_name (pg_name (i := 3) sc__law_integers_right.nd rfl (Or.inl rfl))) (qgs_cons (qg_name (pg_name (i := 4) sc__law_integers_right.nd rfl (Or.inl rfl))) (qgs_cons (qg_name (pg_name (i := 5) sc__law_integers_right.nd rfl (Or.inl rfl))) (qgs_cons (qg_name (pg_name (i := 6) sc__law_integers_right.nd rfl (Or.inl rfl))) qgs_nil))))))
 (qss_cons (qs_if (PW.pt (qt_or (qt_not (qt_chain op_le op_lt r_B r_B (q_op op_mulW r_I (q_var (pv 3)) (q_var (pv 2))) (q_var (pv 1)) (q_op op_mulW r_I (q_op op_add r_I0 (q_var (pv 3)) (q_int pe_int)) (q_var (pv 2))))) (qt_or1 (qt_not (qt_chain op_lt op_le r_B r_B (q_op op_mulW r_I (q_op op_sub r_I0 (q_var (pv 4)) (q_int pe_int)) (q_var (pv 2))) (q_var (pv 1)) (q_op op_mulW r_I (q_var (pv 4)) (q_var (pv 2))))))))
 (qss_one (qs_ret (q_bl pe_bl)))
 qss_nil)
 (qss_cons (qs_if (qt_cmp op_ne r_ne (q_var (pv 5)) (q_ifExp (qt_cmp op_ge r_B (q_var (pv 1)) (q_int pe_int) (nomark _)) (q_var (pv 3)) (q_var (pv 4))) (nomark _))
 (qss_one (qs_ret (q_bl pe_bl)))
 qss_nil)
 (qss_cons (qs_set (ps_set (i := 7) sc__law_integers_right.nd rfl (Or.inl rfl) (q_cb abs_i c_abs (by rfl) T.n_abs (by decide +kernel) (qa_cons (q_op op_mulW r_I (q_int pe_int) (q_op op_sub r_I0 (q_var (pv 1)) (q_op op_mulW r_I (q_var (pv 6)) (q_var (pv 2))))) qa_nil))))
 (qss_one (qs_ret (q_or (q_cmp op_lt r_B (q_var (pv 7)) (q_var (pv 2)) (nomark _)) (pe_one (q_and (q_cmp op_eq r_eq (q_var (pv 7)) (q_var (pv 2)) (nomark _)) (pe_one (q_cmp op_eq r_eq (q_op op_mod r_I (q_ct int_1 c_int (by rfl) T.n_int (by decide +kernel) (qa_cons (q_var (pv 6)) qa_nil)) (q_int pe_int)) (q_int pe_int) (nomark _)))))))))))))) (fun ds O Q h => ?_) (fun ds O Q h => ?_), F.bindsN (fun _ _ _ _ _ _ us hl => match us, hl with | [_, _, _], _ => rfl), F.kp⟩
  · obtain ⟨s, c, e, rfl, _⟩ := h
    rfl
  · obtain ⟨s, c, e, rfl, g, k⟩ := h
    walk_at "q"
    have c0 := g.c0
    have e1 := g.e1
    have cn := g.cn
    obtain ⟨b1, b2, b3⟩ := g.big
    have B0 := botI_pos e
    obtain ⟨n1, n2, n3, n4⟩ := g.ints
    have bz : (botI e).natAbs < 10 ^ 3051 := natAbs_lt (Int.le_of_lt B0) b3
    have H := ints_ok (e := e) g.sg c0
    unfold IntsOk at H
    have H : floI s c e * botI e ≤ (if s = 1 then -topI c e else topI c e) ∧ (if s = 1 then -topI c e else topI c e) < (floI s c e + 1) * botI e ∧ (ceiI s c e - 1) * botI e < (if s = 1 then -topI c e else topI c e) ∧ (if s = 1 then -topI c e else topI c e) ≤ ceiI s c e * botI e ∧ sgnI s (cutI c e).1 = (if 0 ≤ (if s = 1 then -topI c e else topI c e) then floI s c e else ceiI s c e) ∧
      ((((2 * ((if s = 1 then -topI c e else topI c e) - neaI s c e * botI e)).natAbs : Int) < botI e) ∨ ((((2 * ((if s = 1 then -topI c e else topI c e) - neaI s c e * botI e)).natAbs : Int) = botI e) ∧ neaI s c e % 2 = 0)) := H
    obtain ⟨H1, H2, H3, H4, H5, H6⟩ := H
    have big : ∀ z : Int, z.natAbs < 10 ^ 1103 → CMulW z (botI e) := fun z hz => mulW_of hz bz (by decide)
    have p3 : 10 ^ 1103 = 10 ^ 1102 * 10 := Nat.pow_succ ..
    have p2 : 0 < 10 ^ 1102 := Nat.pow_pos (by decide)
    have T2 : ((if s = 1 then -topI c e else topI c e) - neaI s c e * botI e).natAbs < 10 ^ 4200 := by
      have a1 : (neaI s c e * botI e).natAbs < 10 ^ 4153 := by
        rw [Int.natAbs_mul]
        have := Nat.mul_lt_mul_of_lt_of_le n3 (Nat.le_of_lt bz) (by omega)
        rw [← Nat.pow_add] at this
        exact this
      have a2 := natAbs_lt (Int.le_of_lt b2) b1
      have a3 : 10 ^ 1101 < 10 ^ 4153 := Nat.pow_lt_pow_right (by decide) (by decide)
      have a4 : 10 ^ 4154 ≤ 10 ^ 4200 := Nat.pow_le_pow_right (by decide) (by decide)
      have a5 : 10 ^ 4154 = 10 ^ 4153 * 10 := Nat.pow_succ ..
      generalize neaI s c e * botI e = y at a1 ⊢
      generalize topI c e = T at a2 ⊢
      generalize 10 ^ 4153 = u at a1 a3 a5
      generalize 10 ^ 4154 = u2 at a4 a5
      generalize 10 ^ 4200 = u3 at a4 ⊢
      generalize 10 ^ 1101 = u4 at a2 a3
      split <;> omega
    generalize 10 ^ 1102 = v at n1 n2 n3 n4 p2 p3
    generalize hX : (if s = 1 then -topI c e else topI c e) = X at *
    have fin : CMulW (neaI s c e) (botI e) ∧ CMulW 2 (X - neaI s c e * botI e) ∧ if decide ((((2 * (X - neaI s c e * botI e)).natAbs : Nat) : Int) < botI e) = true then Q (D.bl true) O else if decide ((((2 * (X - neaI s c e * botI e)).natAbs : Nat) : Int) = botI e) = true then (0 : Int) < 2 ∧ Q (D.bl (decide (neaI s c e % 2 = 0))) O else Q (D.bl false) O := by
      refine ⟨big _ (by omega), mulW_of (m := 1) (by decide) T2 (by decide), iteD (fun _ => k) fun h => iteD (fun h2 => ⟨by decide, ?_⟩) fun h2 => ?_⟩
      · rcases H6 with H6 | ⟨_, H6⟩
        · exact absurd H6 h
        · rw [decide_eq_true H6]
          exact k
      · rcases H6 with H6 | ⟨H6, _⟩
        · exact absurd H6 h
        · exact absurd H6 h2
    refine ⟨s, c, e, rfl, Int.le_of_lt c0, by omega, .inr (by omega), s, c, e, rfl, Int.le_of_lt c0, by omega, .inr (by omega), s, c, e, rfl, Int.le_of_lt c0, by omega, .inr (by omega), s, c, e, rfl, Int.le_of_lt c0, by omega, .inr (by omega), big _ (by omega), iteD (fun _ => ⟨big _ (by omega), iteND (fun h => absurd H2 h) fun _ => ⟨big _ (by omega), iteD (fun _ => ⟨big _ (by omega), iteND (fun h => absurd H4 h) fun _ => iteD (fun h => ?_) fun h => ?_⟩) fun h => absurd H3 h⟩⟩) fun h => absurd H1 h⟩
    · rw [if_pos h] at H5
      exact iteND (fun h => absurd H5 h) fun _ => fin
    · rw [if_neg h] at H5
      exact iteND (fun h => absurd H5 h) fun _ => fin
theorem ok__law_tiny_right (T : Tx K mg) : OkP P w K mg base 8 ("_law_tiny_right", none) ["_law_a"] g_law_tiny92 := by
  obtain ⟨fd_nearest, G_nearest, b_nearest, k_nearest⟩ := ok_nearest (P := P) (w := w) (base := base) T
  obtain ⟨fd_truncated, G_truncated, b_truncated, k_truncated⟩ := ok_truncated (P := P) (w := w) (base := base) T
  obtain ⟨fd_ceiled, G_ceiled, b_ceiled, k_ceiled⟩ := ok_ceiled (P := P) (w := w) (base := base) T
  obtain ⟨fd_floored, G_floored, b_floored, k_floored⟩ := ok_floored (P := P) (w := w) (base := base) T
  obtain ⟨fd, F⟩ := T.d__law_tiny_right
  refine ⟨fd, okP (k := 7) F sc__law_tiny_right (fun cdv A outer s H E hr => PSs.nox ((qss_cons (qs_set (ps_set (i := 1) sc__law_tiny_right.nd rfl (Or.inl rfl) (q_ifExp (qt_cmp op_eq r_eq (q_fld f_sign T.cl_Decimal T.no_Decimal_sign (q_var (pv 0))) (q_int pe_int) (nomark _)) (q_lst (qa_cons (q_un un_neg r_neg (q_int pe_int)) (qa_cons (q_int pe_int) (qa_cons (q_int pe_int) (qa_cons (q_int pe_int) qa_nil))))) (q_lst (qa_cons (q_int pe_int) (qa_cons (q_int pe_int) (qa_cons (q_int pe_int) (qa_cons (q_int pe_int) qa_nil))))))))
 (qss_one (qs_ret (q_cmp (op_eqD hr.units) r_eqD (q_lst (qa_cons (q_call G_floored (hr.mono (by decide)) (by rfl) T.g_floored k_floored b_floored (qa_cons (q_var (pv 0)) qa_nil)) (qa_cons (q_call G_ceiled (hr.mono (by decide)) (by rfl) T.g_ceiled k_ceiled b_ceiled (qa_cons (q_var (pv 0)) qa_nil)) (qa_cons (q_call G_truncated (hr.mono (by decide)) (by rfl) T.g_truncated k_truncated b_truncated (qa_cons (q_var (pv 0)) qa_nil)) (qa_cons (q_call G_nearest (hr.mono (by decide)) (by rfl) T.g_nearest k_nearest b_nearest (qa_cons (q_var (pv 0)) qa_nil)) qa_nil))))) (q_var (pv 1)) (nomark _))))))) (fun ds O Q h => ?_) (fun ds O Q h => ?_), F.bindsN (fun _ _ _ _ _ _ us hl => match us, hl with | [_], _ => rfl), F.kp⟩
  · obtain ⟨s, c, e, rfl, _⟩ := h
    rfl
  · obtain ⟨s, c, e, rfl, hs, c0, cn, hx, k⟩ := h
    walk_at "q"
    obtain ⟨v1, v2, v3, v4⟩ := tiny_vals (e := e) hs c0 hx
    have n1 := nd_pos c
    have sh : ∀ a b x y : Int, shp (D.lst [D.int a, D.int b, D.int x, D.int y]) := fun a b x y => (shpN_lst (n := 1) (shpNs_cons shpN_int (shpNs_cons shpN_int (shpNs_cons shpN_int (shpNs_cons shpN_int shpNs_nil))))).shp
    refine iteD (fun h => ⟨s, c, e, rfl, Int.le_of_lt c0, by omega, .inr (by omega), s, c, e, rfl, Int.le_of_lt c0, by omega, .inr (by omega), s, c, e, rfl, Int.le_of_lt c0, by omega, .inr (by omega), s, c, e, rfl, Int.le_of_lt c0, by omega, .inr (by omega), sh _ _ _ _, sh _ _ _ _, ?_⟩) fun h => ⟨s, c, e, rfl, Int.le_of_lt c0, by omega, .inr (by omega), s, c, e, rfl, Int.le_of_lt c0, by omega, .inr (by omega), s, c, e, rfl, Int.le_of_lt c0, by omega, .inr (by omega), s, c, e, rfl, Int.le_of_lt c0, by omega, .inr (by omega), sh _ _ _ _, sh _ _ _ _, ?_⟩
    · rw [v1, v2, v3, v4, if_pos h, if_pos h, deq_refl (sh _ _ _ _)]
      exact k
    · rw [v1, v2, v3, v4, if_neg h, if_neg h, deq_refl (sh _ _ _ _)]
      exact k
theorem ok__law_zero_right (T : Tx K mg) : OkP P w K mg base 8 ("_law_zero_right", none) ["_law_well_here", "_law_side"] g_law_zero92 := by
  obtain ⟨fd_Decimal___init__, G_Decimal___init__, b_Decimal___init__, k_Decimal___init__⟩ := ok_Decimal___init__ (P := P) (w := w) (base := base) T
  obtain ⟨fd__law_pick, G__law_pick, b__law_pick, k__law_pick⟩ := ok__law_pick (P := P) (w := w) (base := base) T
  obtain ⟨fd_nearest, G_nearest, b_nearest, k_nearest⟩ := ok_nearest (P := P) (w := w) (base := base) T
  obtain ⟨fd_truncated, G_truncated, b_truncated, k_truncated⟩ := ok_truncated (P := P) (w := w) (base := base) T
  obtain ⟨fd_ceiled, G_ceiled, b_ceiled, k_ceiled⟩ := ok_ceiled (P := P) (w := w) (base := base) T
  obtain ⟨fd_floored, G_floored, b_floored, k_floored⟩ := ok_floored (P := P) (w := w) (base := base) T
  obtain ⟨fd_ratio, G_ratio, b_ratio, k_ratio⟩ := ok_ratio (P := P) (w := w) (base := base) T
  obtain ⟨fd, F⟩ := T.d__law_zero_right
  refine ⟨fd, okP (k := 7) F sc__law_zero_right (fun cdv A outer s H E hr => PSs.nox ((qss_cons (qs_set (ps_set (i := 2) sc__law_zero_right.nd rfl (Or.inl rfl) (q_mkDec T.m_Decimal G_Decimal___init__ (hr.mono (by decide)) (by rfl) T.g_Decimal b_Decimal___init__ (qa_cons (q_var (pv 1)) (qa_cons (q_int pe_int) (qa_cons (q_call G__law_pick (hr.mono (by decide)) (by rfl) T.g__law_pick k__law_pick b__law_pick (qa_cons (q_var (pv 0)) (qa_cons (q_lst (qa_cons (q_int pe_int) (qa_cons (q_int pe_int) (qa_cons (q_un un_neg r_neg (q_int pe_int)) (qa_cons (q_op op_pow r_I (q_int pe_int) (q_int pe_int)) (qa_cons (q_un un_neg r_neg (q_op op_pow r_I (q_int pe_int) (q_int pe_int))) qa_nil)))))) qa_nil))) qa_nil))))))
 (qss_one (qs_ret (q_and (q_cmp (op_eqD hr.units) r_eqD (q_call G_ratio (hr.mono (by decide)) (by rfl) T.g_ratio k_ratio b_ratio (qa_cons (q_var (pv 2)) qa_nil)) (q_tup (qa_cons (q_int pe_int) (qa_cons (q_int pe_int) qa_nil))) (nomark _)) (pe_one (q_cmp (op_eqD hr.units) r_eqD (q_lst (qa_cons (q_call G_floored (hr.mono (by decide)) (by rfl) T.g_floored k_floored b_floored (qa_cons (q_var (pv 2)) qa_nil)) (qa_cons (q_call G_ceiled (hr.mono (by decide)) (by rfl) T.g_ceiled k_ceiled b_ceiled (qa_cons (q_var (pv 2)) qa_nil)) (qa_cons (q_call G_truncated (hr.mono (by decide)) (by rfl) T.g_truncated k_truncated b_truncated (qa_cons (q_var (pv 2)) qa_nil)) (qa_cons (q_call G_nearest (hr.mono (by decide)) (by rfl) T.g_nearest k_nearest b_nearest (qa_cons (q_var (pv 2)) qa_nil)) qa_nil))))) (q_op op_rep r_repL (q_lst (qa_cons (q_int pe_int) qa_nil)) (q_int pe_int)) (nomark _))))))))) (fun ds O Q h => ?_) (fun ds O Q h => ?_), F.bindsN (fun _ _ _ _ _ _ us hl => match us, hl with | [_, _], _ => rfl), F.kp⟩
  · obtain ⟨W, s, rfl, _⟩ := h
    rfl
  · obtain ⟨W, s, rfl, n, hW, hn, hs, k⟩ := h
    walk_at "q"
    have nd0 : nd (0 : Int) = 1 := by decide
    have cp : CPow 10 18 := ⟨by decide, by decide, by decide⟩
    refine ⟨cp, cp, n, hW, by decide, by omega, fun d hd => ?_⟩
    obtain ⟨x, hx⟩ : ∃ x : Int, exOf d = some (.fin x) := by
      simp only [List.mem_cons, List.not_mem_nil, or_false] at hd
      rcases hd with rfl | rfl | rfl | rfl | rfl <;> exact ⟨_, rfl⟩
    obtain ⟨v1, v2, v3, v4, v5⟩ := zero_vals s x hs
    refine ⟨_, hx, okF hs (by decide), s, 0, x, rfl, by decide, by decide, .inl rfl, (shpN_tup (n := 1) (shpNs_cons shpN_int (shpNs_cons shpN_int shpNs_nil))).shp, (shpN_tup (n := 1) (shpNs_cons shpN_int (shpNs_cons shpN_int shpNs_nil))).shp, ?_⟩
    rw [v5, deq_refl (shpN_tup (n := 1) (shpNs_cons shpN_int (shpNs_cons shpN_int shpNs_nil))).shp, if_pos rfl]
    refine ⟨s, 0, x, rfl, by decide, by decide, .inl rfl, s, 0, x, rfl, by decide, by decide, .inl rfl, s, 0, x, rfl, by decide, by decide, .inl rfl, s, 0, x, rfl, by decide, by decide, .inl rfl, ?_⟩
    rw [v1, v2, v3, v4]
    have sh : shp (D.lst [D.int 0, D.int 0, D.int 0, D.int 0]) := (shpN_lst (n := 1) (shpNs_cons shpN_int (shpNs_cons shpN_int (shpNs_cons shpN_int (shpNs_cons shpN_int shpNs_nil))))).shp
    have e4 : (List.replicate (Int.toNat 4) [D.int 0]).flatten = [D.int 0, D.int 0, D.int 0, D.int 0] := rfl
    rw [e4, deq_refl sh]
    exact ⟨by decide, by decide, by decide, sh, sh, k _ (by omega)⟩
theorem ok__law_number (T : Tx K mg) : OkP P w K mg base 7 ("_law_number", none) ["_law_well_here"] g_law_num92 := by
  obtain ⟨fd__law_draw, G__law_draw, b__law_draw, k__law_draw⟩ := ok__law_draw (P := P) (w := w) (base := base) T
  obtain ⟨fd__law_whole, G__law_whole, b__law_whole, k__law_whole⟩ := ok__law_whole (P := P) (w := w) (base := base) T
  obtain ⟨fd__law_pick, G__law_pick, b__law_pick, k__law_pick⟩ := ok__law_pick (P := P) (w := w) (base := base) T
  obtain ⟨fd_Decimal___init__, G_Decimal___init__, b_Decimal___init__, k_Decimal___init__⟩ := ok_Decimal___init__ (P := P) (w := w) (base := base) T
  obtain ⟨fd__law_tens, G__law_tens, b__law_tens, k__law_tens⟩ := ok__law_tens (P := P) (w := w) (base := base) T
  obtain ⟨fd, F⟩ := T.d__law_number
  refine ⟨fd, okP (k := 6) F sc__law_number (fun cdv A outer s H E hr => PSs.nox ((qss_cons (qs_par (ps_par (i := 1) (j := 2) (by rfl) sc__law_number.nd rfl rfl (by decide) rfl rfl (qa_cons (q_call G__law_whole (hr.mono (by decide)) (by rfl) T.g__law_whole k__law_whole b__law_whole (qa_cons (q_var (pv 0)) (qa_cons (q_call G__law_pick (hr.mono (by decide)) (by rfl) T.g__law_pick k__law_pick b__law_pick (qa_cons (q_var (pv 0)) (qa_cons (q_lst (qa_cons (q_int pe_int) (qa_cons (q_int pe_int) (qa_cons (q_int pe_int) (qa_cons (q_int pe_int) qa_nil))))) qa_nil))) qa_nil))) (qa_cons (q_call G__law_draw (hr.mono (by decide)) (by rfl) T.g__law_draw k__law_draw b__law_draw (qa_cons (q_var (pv 0)) (qa_cons (q_int pe_int) qa_nil))) qa_nil)) (by rfl)))
 (qss_cons (qs_if (qt_cmp op_eq r_eq (q_var (pv 2)) (q_int pe_int) (nomark _))
 (qss_one (qs_ret (q_mkDec T.m_Decimal G_Decimal___init__ (hr.mono (by decide)) (by rfl) T.g_Decimal b_Decimal___init__ (qa_cons (q_call G__law_draw (hr.mono (by decide)) (by rfl) T.g__law_draw k__law_draw b__law_draw (qa_cons (q_var (pv 0)) (qa_cons (q_int pe_int) qa_nil))) (qa_cons (q_op op_add r_I0 (q_op op_mulW r_I (q_int pe_int) (q_var (pv 1))) (q_int pe_int)) (qa_cons (q_un un_neg r_neg (q_int pe_int)) qa_nil))))))
 qss_nil)
 (qss_cons (qs_if (qt_cmp op_eq r_eq (q_var (pv 2)) (q_int pe_int) (nomark _))
 (qss_cons (qs_set (ps_set (i := 3) sc__law_number.nd rfl (Or.inl rfl) (q_op op_add r_I0 (q_int pe_int) (q_call G__law_draw (hr.mono (by decide)) (by rfl) T.g__law_draw k__law_draw b__law_draw (qa_cons (q_var (pv 0)) (qa_cons (q_int pe_int) qa_nil))))))
 (qss_one (qs_ret (q_mkDec T.m_Decimal G_Decimal___init__ (hr.mono (by decide)) (by rfl) T.g_Decimal b_Decimal___init__ (qa_cons (q_call G__law_draw (hr.mono (by decide)) (by rfl) T.g__law_draw k__law_draw b__law_draw (qa_cons (q_var (pv 0)) (qa_cons (q_int pe_int) qa_nil))) (qa_cons (q_op op_sub r_I0 (q_op op_add r_I0 (q_op op_mulW r_I (q_op op_add r_I0 (q_int pe_int) (q_var (pv 1))) (q_call G__law_tens (hr.mono (by decide)) (by rfl) T.g__law_tens k__law_tens b__law_tens (qa_cons (q_var (pv 3)) qa_nil))) (q_call G__law_draw (hr.mono (by decide)) (by rfl) T.g__law_draw k__law_draw b__law_draw (qa_cons (q_var (pv 0)) (qa_cons (q_int pe_int) qa_nil)))) (q_int pe_int)) (qa_cons (q_un un_neg r_neg (q_var (pv 3))) qa_nil)))))))
 qss_nil)
 (qss_cons (qs_set (ps_set (i := 4) sc__law_number.nd rfl (Or.inl rfl) (q_op op_sub r_I0 (q_call G__law_draw (hr.mono (by decide)) (by rfl) T.g__law_draw k__law_draw b__law_draw (qa_cons (q_var (pv 0)) (qa_cons (q_ix ix_list r_ixL (q_lst (qa_cons (q_int pe_int) (qa_cons (q_int pe_int) (qa_cons (q_int pe_int) qa_nil)))) (q_op op_sub r_I0 (q_var (pv 2)) (q_int pe_int)) (fun _ _ => rfl)) qa_nil))) (q_ix ix_list r_ixL (q_lst (qa_cons (q_int pe_int) (qa_cons (q_int pe_int) (qa_cons (q_int pe_int) qa_nil)))) (q_op op_sub r_I0 (q_var (pv 2)) (q_int pe_int)) (fun _ _ => rfl)))))
 (qss_one (qs_ret (q_mkDec T.m_Decimal G_Decimal___init__ (hr.mono (by decide)) (by rfl) T.g_Decimal b_Decimal___init__ (qa_cons (q_call G__law_draw (hr.mono (by decide)) (by rfl) T.g__law_draw k__law_draw b__law_draw (qa_cons (q_var (pv 0)) (qa_cons (q_int pe_int) qa_nil))) (qa_cons (q_op op_add r_I0 (q_int pe_int) (q_var (pv 1))) (qa_cons (q_var (pv 4)) qa_nil)))))))))))) (fun ds O Q h => ?_) (fun ds O Q h => ?_), F.bindsN (fun _ _ _ _ _ _ us hl => match us, hl with | [_], _ => rfl), F.kp⟩
  · obtain ⟨W, rfl, _⟩ := h
    rfl
  · obtain ⟨W, rfl, n, hW, hn, k⟩ := h
    walk_at "q"
    have e401 : ∀ x : Int, x ≤ 400 → (10 : Int) ^ (x.toNat + 1) ≤ 10 ^ 401 := fun x hx => pw_mono (by omega)
    have tb : (10 : Int) ^ 900 < 2 ^ 2998 := by decide +kernel
    have mk : ∀ {s c e n' : Int}, (s = 0 ∨ s = 1) → 0 < c → c < 10 ^ 440 → -3050 ≤ e → e ≤ 100 → n - 3000 ≤ n' → Dc.Ok ⟨s, c, .fin e⟩ ∧ Q (.dec ⟨s, c, .fin e⟩) (updO O W (.well n')) := fun {s c e n'} hs c0 c1 h0 h1 hn => by
      refine ⟨okF hs (Int.le_of_lt c0), k s c e _ ⟨hs, c0, Int.le_trans (nd_le (k := 440) (by decide) (Int.le_of_lt c0) c1) (by decide), h0, h1⟩ ?_ hn⟩
      have h2 : c * 10 ^ (max e 0).toNat < 10 ^ 440 * 10 ^ (max e 0).toNat := Int.mul_lt_mul_of_pos_right c1 (pow10_pos _)
      rw [← Int.pow_add] at h2
      exact Int.lt_trans (Int.lt_of_lt_of_le h2 (pw_mono (show 440 + (max e 0).toNat ≤ 900 by omega))) tb
    refine ⟨n, hW, by decide, by omega, fun d hd => ?_⟩
    obtain ⟨x, rfl, x0, x1⟩ : ∃ x, d = D.int x ∧ 1 ≤ x ∧ x ≤ 400 := by
      simp only [List.mem_cons, List.not_mem_nil, or_false] at hd
      rcases hd with rfl | rfl | rfl | rfl <;> exact ⟨_, rfl, by decide, by decide⟩
    refine ⟨x, rfl, x0, by omega, by omega, fun v n' v0 v1 hn' => ⟨by decide, by decide, by omega, fun w w0 w1 => ?_⟩⟩
    have v2 : v < 10 ^ 401 := Int.lt_of_lt_of_le v1 (e401 x x1)
    have p401 := pow10_pos 401
    have q402 : (10 : Int) ^ 402 = 10 ^ 401 * 10 := Int.pow_succ ..
    have q403 : (10 : Int) ^ 403 = 10 ^ 402 * 10 := Int.pow_succ ..
    have l440 : (10 : Int) ^ 403 ≤ 10 ^ 440 := pw_mono (by decide)
    have c5 : 10 * v + 5 < 10 ^ 440 := by
      generalize (10 : Int) ^ 401 = z at *
      omega
    have c1 : 1 + v < 10 ^ 440 := by
      generalize (10 : Int) ^ 401 = z at *
      omega
    refine iteD (fun _ => ⟨by decide, by decide, by omega, fun s s0 s1 => ⟨mulW_of (m := 2) (by decide) (natAbs_lt v0 v2) (by decide), mk (by omega) (by omega) c5 (by decide) (by decide) (by omega)⟩⟩) fun _ => iteD (fun _ => ⟨by decide, by decide, by omega, fun y y0 y1 => ⟨by decide, by decide, by omega, fun s s0 s1 => ⟨by omega, by omega, ?_, by decide, by decide, by omega, fun z z0 z1 => ?_⟩⟩⟩) fun _ => ?_
    · exact mulW_of (m := 440) (n := 32) (natAbs_lt (by omega) c1) (by rw [abs10]; exact Nat.pow_lt_pow_right (by decide) (by omega)) (by decide)
    · have pp := pow10_pos (1 + y).toNat
      have p10 : (10 : Int) ^ 1 ≤ 10 ^ (1 + y).toNat := pw_mono (by omega)
      have p30 : (10 : Int) ^ (1 + y).toNat ≤ 10 ^ 30 := pw_mono (by omega)
      have a1 : 1 * 10 ^ (1 + y).toNat ≤ (1 + v) * 10 ^ (1 + y).toNat := Int.mul_le_mul_of_nonneg_right (by omega) (Int.le_of_lt pp)
      have a2 : (1 + v) * 10 ^ (1 + y).toNat ≤ 10 ^ 401 * 10 ^ (1 + y).toNat := Int.mul_le_mul_of_nonneg_right (by omega) (Int.le_of_lt pp)
      have a3 : (10 : Int) ^ 401 * 10 ^ (1 + y).toNat ≤ 10 ^ 401 * 10 ^ 30 := Int.mul_le_mul_of_nonneg_left p30 (Int.le_of_lt p401)
      have e431 : (10 : Int) ^ 401 * 10 ^ 30 = 10 ^ 431 := (Int.pow_add _ _ _).symm
      rw [e431] at a3
      have a4 : (10 : Int) ^ 432 ≤ 10 ^ 440 := pw_mono (by decide)
      have a5 : (10 : Int) ^ 432 = 10 ^ 431 * 10 := Int.pow_succ ..
      have a6 := pow10_pos 431
      refine mk (by omega) ?_ ?_ (by omega) (by omega) (by omega)
      · generalize (1 + v) * 10 ^ (1 + y).toNat = u at *
        generalize (10 : Int) ^ (1 + y).toNat = u2 at *
        omega
      · generalize (1 + v) * 10 ^ (1 + y).toNat = u at *
        generalize (10 : Int) ^ 401 * 10 ^ (1 + y).toNat = u2 at *
        generalize (10 : Int) ^ 431 = u3 at *
        generalize (10 : Int) ^ 432 = u4 at *
        omega
    · have e40 : (10 : Int) ^ 40 = 10000000000000000000000000000000000000000 := by decide
      obtain ⟨a, b, ia, ib, a0, a1, ab⟩ : ∃ a b : Int, atI [D.int 12, D.int 461, D.int 2601] (w - 2) = some (D.int a) ∧ atI [D.int 9, D.int 400, D.int 3000] (w - 2) = some (D.int b) ∧ 1 ≤ a ∧ a ≤ 2601 ∧ (b ≤ 3000 ∧ a - b ≤ 61) := by
        have hw : w = 2 ∨ w = 3 ∨ w = 4 := by omega
        rcases hw with rfl | rfl | rfl
        · exact ⟨12, 9, atI_0, atI_0, by decide, by decide, by decide⟩
        · exact ⟨461, 400, atI_1, atI_1, by decide, by decide, by decide⟩
        · exact ⟨2601, 3000, atI_2, atI_2, by decide, by decide, by decide⟩
      exact ⟨_, ia, a, rfl, a0, by rw [e40]; omega, by omega, fun y y0 y1 => ⟨_, ib, b, rfl, by decide, by decide, by omega, fun s s0 s1 => mk (by omega) (by omega) c1 (by omega) (by omega) (by omega)⟩⟩
end

theorem delO_upd92 {O : Ow} {a : Addr} {m : MO} (h : O a = none) : delO (updO O a m) a = O := by
  funext b
  unfold delO updO
  split
  · rename_i e
    rw [e, h]
  · rfl
theorem ordX_self92 (s c e : Int) : ordX ⟨s, c, .fin e⟩ ⟨s, c, .fin e⟩ = 0 := by
  have h : valO c e c e = 0 := by
    unfold valO cmpI
    omega
  unfold ordX
  rw [if_neg (fun q => q rfl)]
  split
  · rfl
  · show _ * valO c e c e = 0
    rw [h, Int.mul_zero]
theorem eqX_self92 (s c e : Int) : eqX ⟨s, c, .fin e⟩ ⟨s, c, .fin e⟩ = true := by
  unfold eqX
  rw [ordX_self92]
  rfl
def vals92 (s c e : Int) : List D := [D.tup [D.int (ratI s c e).1, D.int (ratI s c e).2], D.int (floI s c e), D.int (hashI s c e), D.int (ceiI s c e), D.int (sgnI s (cutI c e).1), D.int (neaI s c e)]
section
variable {P : Program} {w : World} {K : PySem.W.Frag} {mg : Str → Option Value} {base : Heap}
theorem ok__law_stays (T : Tx K mg) : OkP P w K mg base 8 ("_law_stays", none) ["_law_a"] g_law_stays92 := by
  obtain ⟨fd_Decimal___init__, G_Decimal___init__, b_Decimal___init__, k_Decimal___init__⟩ := ok_Decimal___init__ (P := P) (w := w) (base := base) T
  obtain ⟨fd_nearest, G_nearest, b_nearest, k_nearest⟩ := ok_nearest (P := P) (w := w) (base := base) T
  obtain ⟨fd_truncated, G_truncated, b_truncated, k_truncated⟩ := ok_truncated (P := P) (w := w) (base := base) T
  obtain ⟨fd_ceiled, G_ceiled, b_ceiled, k_ceiled⟩ := ok_ceiled (P := P) (w := w) (base := base) T
  obtain ⟨fd_number_hash, G_number_hash, b_number_hash, k_number_hash⟩ := ok_number_hash (P := P) (w := w) (base := base) T
  obtain ⟨fd_floored, G_floored, b_floored, k_floored⟩ := ok_floored (P := P) (w := w) (base := base) T
  obtain ⟨fd_ratio, G_ratio, b_ratio, k_ratio⟩ := ok_ratio (P := P) (w := w) (base := base) T
  obtain ⟨fd_Decimal___eq__, G_Decimal___eq__, b_Decimal___eq__, k_Decimal___eq__⟩ := ok_Decimal___eq__ (P := P) (w := w) (base := base) T
  obtain ⟨fd, F⟩ := T.d__law_stays
  refine ⟨fd, okP (k := 7) F sc__law_stays (fun cdv A outer s H E hr => PSs.nox ((qss_cons (qs_par (ps_par (i := 1) (j := 2) (by rfl) sc__law_stays.nd rfl rfl (by decide) rfl rfl (qa_cons (q_tup (qa_cons (q_fld f_sign T.cl_Decimal T.no_Decimal_sign (q_var (pv 0))) (qa_cons (q_fld f_coef T.cl_Decimal T.no_Decimal_coefficient (q_var (pv 0))) (qa_cons (q_fld f_exp T.cl_Decimal T.no_Decimal_exponent (q_var (pv 0))) qa_nil)))) (qa_cons (q_lstM qa_nil) qa_nil)) (by rfl)))
 (qss_cons (qs_forR (ps_for PassesOwn.never rfl (pi_range1 (by rfl) T.n_range (qa_cons (q_int pe_int) qa_nil)) (qg_name (pg_name (i := 3) sc__law_stays.nd rfl (Or.inl rfl)))
 (qss_cons (qs_par (ps_par (i := 4) (j := 5) (by rfl) sc__law_stays.nd rfl rfl (by decide) rfl rfl (qa_cons (q_mkDec T.m_Decimal G_Decimal___init__ (hr.mono (by decide)) (by rfl) T.g_Decimal b_Decimal___init__ (qa_cons (q_ix ix_tup r_ixT (q_var (pv 1)) (q_int pe_int) (fun _ _ => rfl)) (qa_cons (q_ix ix_tup r_ixT (q_var (pv 1)) (q_int pe_int) (fun _ _ => rfl)) (qa_cons (q_ix ix_tup r_ixT (q_var (pv 1)) (q_int pe_int) (fun _ _ => rfl)) qa_nil)))) (qa_cons (q_lstM qa_nil) qa_nil)) (by rfl)))
 (qss_cons (qs_forT (ps_for PassesOwn.never rfl (pi_tup (q_tup (qa_cons (q_ref (pe_gR (by rfl) T.g_ratio)) (qa_cons (q_ref (pe_gR (by rfl) T.g_floored)) (qa_cons (q_ref (pe_gR (by rfl) T.g_number_hash)) (qa_cons (q_ref (pe_gR (by rfl) T.g_ceiled)) (qa_cons (q_ref (pe_gR (by rfl) T.g_truncated)) (qa_cons (q_ref (pe_gR (by rfl) T.g_nearest)) qa_nil)))))))) (qg_name (pg_name (i := 6) sc__law_stays.nd rfl (Or.inl rfl)))
 (qss_cons (qs_expr (q_append (q_var (pv 5)) (qa_cons (q_either (q_callL (i := 6) G_ratio (hr.mono (by decide)) k_ratio b_ratio (qa_cons (q_var (pv 0)) qa_nil)) (q_either (q_callL (i := 6) G_floored (hr.mono (by decide)) k_floored b_floored (qa_cons (q_var (pv 0)) qa_nil)) (q_either (q_callL (i := 6) G_number_hash (hr.mono (by decide)) k_number_hash b_number_hash (qa_cons (q_var (pv 0)) qa_nil)) (q_either (q_callL (i := 6) G_ceiled (hr.mono (by decide)) k_ceiled b_ceiled (qa_cons (q_var (pv 0)) qa_nil)) (q_either (q_callL (i := 6) G_truncated (hr.mono (by decide)) k_truncated b_truncated (qa_cons (q_var (pv 0)) qa_nil)) (q_callL (i := 6) G_nearest (hr.mono (by decide)) k_nearest b_nearest (qa_cons (q_var (pv 0)) qa_nil))))))) qa_nil)))
 (qss_one (qs_if (PW.pt (qt_or (qt_cmp (op_neD hr.units) r_neD (q_tup (qa_cons (q_fld f_sign T.cl_Decimal T.no_Decimal_sign (q_var (pv 0))) (qa_cons (q_fld f_coef T.cl_Decimal T.no_Decimal_coefficient (q_var (pv 0))) (qa_cons (q_fld f_exp T.cl_Decimal T.no_Decimal_exponent (q_var (pv 0))) qa_nil)))) (q_var (pv 1)) (nomark _)) (qt_or1 (qt_not (qt_cmp (op_eqOwn T.eqf.eq T.eqf.fn T.eqf.int G_Decimal___eq__ (hr.mono (by decide)) b_Decimal___eq__) r_eqO (q_var (pv 0)) (q_var (pv 4)) (nomark _))))))
 (qss_one (qs_ret (q_bl pe_bl)))
 qss_nil)))))
 (qss_one (qs_freeze (i := 5) (qs_expr (q_append (q_var (pv 2)) (qa_cons (q_var (pv 5)) qa_nil)))))))))
 (qss_one (qs_freeze (i := 2) (qs_ret (q_cmp (op_eqD hr.units) r_eqD (q_ix ix_list r_ixL (q_var (pv 2)) (q_int pe_int) (fun _ _ => rfl)) (q_ix ix_list r_ixL (q_var (pv 2)) (q_int pe_int) (fun _ _ => rfl)) (nomark _))))))))) (fun ds O Q h => ?_) (fun ds O Q h => ?_), F.bindsN (fun _ _ _ _ _ _ us hl => match us, hl with | [_], _ => rfl), F.kp⟩
  · obtain ⟨s, c, e, rfl, _⟩ := h
    rfl
  · obtain ⟨s, c, e, rfl, g, k⟩ := h
    have c0 := Int.le_of_lt g.c0
    have e0 := g.e0
    have e1 := g.e1
    have cn : nd c ≤ 2000 := by have := g.cn; omega
    have sh : shp (D.tup [D.int s, D.int c, D.int e]) := (shpN_tup (n := 1) (shpNs_cons shpN_int (shpNs_cons shpN_int (shpNs_cons shpN_int shpNs_nil)))).shp
    have ok : Dc.Ok ⟨s, c, .fin e⟩ := okF g.sg c0
    have eqq : EqQ ⟨s, c, .fin e⟩ ⟨s, c, .fin e⟩ := ⟨ok, ok, by show nd c ≤ 30000; omega, by show nd c ≤ 30000; omega⟩
    walk_at "q"
    intro a ha
    refine ⟨by decide, by decide, ?_⟩
    refine ⟨fun i ρ O' => ∃ s3 s4 s5 s6, ρ = [some (D.dec ⟨s, c, .fin e⟩), some (D.tup [D.int s, D.int c, D.int e]), some (D.ref a), s3, s4, s5, s6] ∧ O' = updO O a (MO.lst (List.replicate i (D.lst (vals92 s c e)))), ⟨_, _, _, _, rfl, rfl⟩, ?_, ?_⟩
    · rintro i d ρ O1 hi ⟨s3, s4, s5, s6, rfl, rfl⟩
      have hi2 : i < 2 := (rngD_get hi).1
      walk_at "q"
      refine ⟨okF g.sg (Int.le_of_lt g.c0), fun b hb => ?_⟩
      have ba : b ≠ a := fun h => by rw [h, updO_same] at hb; cases hb
      refine ⟨fun j ρ O' => ∃ s6, ρ = [some (D.dec ⟨s, c, .fin e⟩), some (D.tup [D.int s, D.int c, D.int e]), some (D.ref a), some d, some (D.dec ⟨s, c, .fin e⟩), some (D.ref b), s6] ∧ O' = updO (updO O a (MO.lst (List.replicate i (D.lst (vals92 s c e))))) b (MO.lst ((vals92 s c e).take j)), ⟨_, rfl, rfl⟩, ?_, ?_⟩
      · rintro j f ρ O2 hj ⟨s6, rfl, rfl⟩
        match j, hj with
        | 0, hj =>
          cases hj
          walk_at "q"
          exact .inl ⟨rfl, s, c, e, rfl, c0, cn, .inr ⟨by omega, by omega⟩, (by show 0 < 100000; decide), sh, sh, ite_no (congrArg (fun b => !b) (deq_refl sh)) ⟨.inr trivial, .inr ⟨eqq, ite_no (congrArg (fun b => !b) (eqX_self92 s c e)) rfl⟩⟩⟩
        | 1, hj =>
          cases hj
          walk_at "q"
          exact .inr (.inl ⟨rfl, s, c, e, rfl, c0, cn, .inr (by omega), (by show 1 < 100000; decide), sh, sh, ite_no (congrArg (fun b => !b) (deq_refl sh)) ⟨.inr trivial, .inr ⟨eqq, ite_no (congrArg (fun b => !b) (eqX_self92 s c e)) rfl⟩⟩⟩)
        | 2, hj =>
          cases hj
          walk_at "q"
          exact .inr (.inr (.inl ⟨rfl, s, c, e, rfl, c0, cn, .inr (by omega), (by show 2 < 100000; decide), sh, sh, ite_no (congrArg (fun b => !b) (deq_refl sh)) ⟨.inr trivial, .inr ⟨eqq, ite_no (congrArg (fun b => !b) (eqX_self92 s c e)) rfl⟩⟩⟩))
        | 3, hj =>
          cases hj
          walk_at "q"
          exact .inr (.inr (.inr (.inl ⟨rfl, s, c, e, rfl, c0, cn, .inr (by omega), (by show 3 < 100000; decide), sh, sh, ite_no (congrArg (fun b => !b) (deq_refl sh)) ⟨.inr trivial, .inr ⟨eqq, ite_no (congrArg (fun b => !b) (eqX_self92 s c e)) rfl⟩⟩⟩)))
        | 4, hj =>
          cases hj
          walk_at "q"
          exact .inr (.inr (.inr (.inr (.inl ⟨rfl, s, c, e, rfl, c0, cn, .inr (by omega), (by show 4 < 100000; decide), sh, sh, ite_no (congrArg (fun b => !b) (deq_refl sh)) ⟨.inr trivial, .inr ⟨eqq, ite_no (congrArg (fun b => !b) (eqX_self92 s c e)) rfl⟩⟩⟩))))
        | 5, hj =>
          cases hj
          walk_at "q"
          exact .inr (.inr (.inr (.inr (.inr (⟨rfl, s, c, e, rfl, c0, cn, .inr (by omega), (by show 5 < 100000; decide), sh, sh, ite_no (congrArg (fun b => !b) (deq_refl sh)) ⟨.inr trivial, .inr ⟨eqq, ite_no (congrArg (fun b => !b) (eqX_self92 s c e)) rfl⟩⟩⟩)))))
        | j + 6, hj => cases hj
      · rintro ρ O2 ⟨s6, rfl, rfl⟩
        walk_at "q"
        have e6 : ([D.ref (He.ga K (Str.ofString "ratio")), D.ref (He.ga K (Str.ofString "floored")), D.ref (He.ga K (Str.ofString "number_hash")), D.ref (He.ga K (Str.ofString "ceiled")), D.ref (He.ga K (Str.ofString "truncated")), D.ref (He.ga K (Str.ofString "nearest"))] : List D).length = 6 := rfl
        rw [delO_upd92 (show updO O a (MO.lst (List.replicate i (D.lst (vals92 s c e)))) b = none from hb)]
        refine ⟨⟨_, updO_same⟩, _, updO_same, by rw [List.length_replicate]; omega, ?_⟩
        rw [updO_updO]
        congr 2
        rw [show List.take 6 (vals92 s c e) = vals92 s c e from rfl]
        exact (List.replicate_succ' ..).symm
    · rintro ρ O2 ⟨s3, s4, s5, s6, rfl, rfl⟩
      walk_at "q"
      have sv : shp (D.lst (vals92 s c e)) := (shpN_lst (n := 2) (shpNs_cons (shpN_tup (n := 1) (shpNs_cons shpN_int (shpNs_cons shpN_int shpNs_nil))) (shpNs_cons shpN_int (shpNs_cons shpN_int (shpNs_cons shpN_int (shpNs_cons shpN_int (shpNs_cons shpN_int shpNs_nil))))))).shp
      rw [delO_upd92 ha]
      refine ⟨_, rfl, _, rfl, sv, sv, ?_⟩
      rw [deq_refl sv]
      exact k
end

def X7 : Int := 7 * ((10 ^ 1000 - 1) / 9)
theorem x7_cl : cl (Txt.mul (Str.ofString "7") ((1000 : Nat) : Int)) = List.replicate 1000 55 := by
  have fl : ∀ m : Nat, (List.replicate m [55]).flatten = List.replicate m 55 := fun m => by
    induction m with
    | zero => rfl
    | succ m ih =>
      rw [List.replicate_succ, List.flatten_cons, List.replicate_succ, ih]
      rfl
  have c7 : cl (Str.ofString "7") = [55] := rfl
  rw [cl_mul (by decide), c7, Int.toNat_natCast, fl]
theorem x7_len : (Txt.mul (Str.ofString "7") 1000).length ≤ 4300 := by
  have l7 : (Str.ofString "7").length = 1 := by decide +kernel
  have := len_mul (k := 1000) l7
  rw [this]
  decide
theorem x7_text : PySem.intText? (Txt.mul (Str.ofString "7") 1000) = some X7 := by
  have d7 : digS (Str.ofString "7") := by
    unfold digS NumText.AllDigits
    decide +kernel
  have l7 : (Str.ofString "7").length = 1 := by decide +kernel
  have x7_len : (Txt.mul (Str.ofString "7") ((1000 : Nat) : Int)).length ≤ 4300 := x7_len
  show PySem.intText? (Txt.mul (Str.ofString "7") ((1000 : Nat) : Int)) = some X7
  rw [PySem.intText_digits (digS_mul l7 d7) (fun e => ?_) x7_len]
  · congr 1
  · have : (cl (Txt.mul (Str.ofString "7") ((1000 : Nat) : Int))).length = 0 := by
      show List.length (Str.cps _).toList = 0
      rw [e]
      rfl
    rw [x7_cl] at this
    simp at this
theorem x7_lt : 10 ^ 999 ≤ X7 ∧ X7 < 10 ^ 1000 := by decide +kernel
theorem x7_nd : nd X7 = 1000 := by
  have h := x7_lt
  have p := pow10_pos 999
  have a := nd_le (k := 1000) (by decide) (show 0 ≤ X7 by omega) h.2
  have b := lt_nd (show 0 ≤ X7 by omega)
  by_cases h2 : nd X7 ≤ 999
  · have : (10 : Int) ^ (nd X7).toNat ≤ 10 ^ 999 := pw_mono (by omega)
    omega
  · omega
theorem x7_rat : ratI 0 X7 (-1000) = (X7, 10 ^ 1000) := by decide +kernel
theorem x7_eu : eu 6000 X7.natAbs ((10 : Int) ^ 1000).natAbs = 1 := by decide +kernel
theorem x7_cut : cutI X7 (-1000) = (0, 3) := by
  unfold cutI
  rw [x7_nd]
  decide +kernel
theorem x7_vals : floI 0 X7 (-1000) = 0 ∧ ceiI 0 X7 (-1000) = 1 ∧ neaI 0 X7 (-1000) = 1 := by
  unfold floI ceiI neaI
  rw [x7_cut]
  decide +kernel
section
variable {P : Program} {w : World} {K : PySem.W.Frag} {mg : Str → Option Value} {base : Heap}
def g_law_long92 : List D → Ow → DK → Prop := fun ds O P => ds = [] ∧ P (.bl true) O
theorem ok__law_long_right (T : Tx K mg) : OkP P w K mg base 10 ("_law_long_right", none) [] g_law_long92 := by
  obtain ⟨fd_Decimal___init__, G_Decimal___init__, b_Decimal___init__, k_Decimal___init__⟩ := ok_Decimal___init__ (P := P) (w := w) (base := base) T
  obtain ⟨fd_nearest, G_nearest, b_nearest, k_nearest⟩ := ok_nearest (P := P) (w := w) (base := base) T
  obtain ⟨fd_ceiled, G_ceiled, b_ceiled, k_ceiled⟩ := ok_ceiled (P := P) (w := w) (base := base) T
  obtain ⟨fd_floored, G_floored, b_floored, k_floored⟩ := ok_floored (P := P) (w := w) (base := base) T
  obtain ⟨fd_ratio, G_ratio, b_ratio, k_ratio⟩ := ok_ratio (P := P) (w := w) (base := base) T
  obtain ⟨fd__law_tens, G__law_tens, b__law_tens, k__law_tens⟩ := ok__law_tens (P := P) (w := w) (base := base) T
  obtain ⟨fd__law_ratio_right, G__law_ratio_right, b__law_ratio_right, k__law_ratio_right⟩ := ok__law_ratio_right (P := P) (w := w) (base := base) T
  obtain ⟨fd, F⟩ := T.d__law_long_right
  refine ⟨fd, okP (k := 9) F sc__law_long_right (fun cdv A outer s H E hr => PSs.nox ((qss_cons (qs_set (ps_set (i := 0) sc__law_long_right.nd rfl (Or.inl rfl) (q_mkDec T.m_Decimal G_Decimal___init__ (hr.mono (by decide)) (by rfl) T.g_Decimal b_Decimal___init__ (qa_cons (q_int pe_int) (qa_cons (q_ct (call_intB T.dg) c_intB (by rfl) T.n_int (by decide +kernel) (qa_cons (q_op op_repS r_repS (q_str pe_str) (q_int pe_int)) qa_nil)) (qa_cons (q_un un_neg r_neg (q_int pe_int)) qa_nil))))))
 (qss_one (qs_ret (q_and (q_call G__law_ratio_right (hr.mono (by decide)) (by rfl) T.g__law_ratio_right k__law_ratio_right b__law_ratio_right (qa_cons (q_var (pv 0)) qa_nil)) (q_and (q_cmp op_eq r_eq (q_ix ix_tup r_ixT (q_call G_ratio (hr.mono (by decide)) (by rfl) T.g_ratio k_ratio b_ratio (qa_cons (q_var (pv 0)) qa_nil)) (q_int pe_int) (fun _ _ => rfl)) (q_call G__law_tens (hr.mono (by decide)) (by rfl) T.g__law_tens k__law_tens b__law_tens (qa_cons (q_int pe_int) qa_nil)) (nomark _)) (pe_one (q_cmp (op_eqD hr.units) r_eqD (q_lst (qa_cons (q_call G_floored (hr.mono (by decide)) (by rfl) T.g_floored k_floored b_floored (qa_cons (q_var (pv 0)) qa_nil)) (qa_cons (q_call G_ceiled (hr.mono (by decide)) (by rfl) T.g_ceiled k_ceiled b_ceiled (qa_cons (q_var (pv 0)) qa_nil)) (qa_cons (q_call G_nearest (hr.mono (by decide)) (by rfl) T.g_nearest k_nearest b_nearest (qa_cons (q_var (pv 0)) qa_nil)) qa_nil)))) (q_lst (qa_cons (q_int pe_int) (qa_cons (q_int pe_int) (qa_cons (q_int pe_int) qa_nil)))) (nomark _)))))))))) (fun ds O Q h => ?_) (fun ds O Q h => ?_), F.bindsN (fun _ _ _ _ _ _ us hl => match us, hl with | [], _ => rfl), F.kp⟩
  · obtain ⟨rfl, _⟩ := h
    rfl
  · obtain ⟨rfl, k⟩ := h
    walk_at "q"
    have x0 : 0 ≤ X7 := by have := x7_lt; have := pow10_pos 999; omega
    have x1 : 0 < X7 := by have := x7_lt; have := pow10_pos 999; omega
    have n2 : nd X7 ≤ 2000 := by rw [x7_nd]; decide
    obtain ⟨v1, v2, v3⟩ := x7_vals
    have e1 : (ratI 0 X7 (-1000)).2 = 10 ^ Int.toNat 1000 := by rw [x7_rat]; rfl
    refine ⟨mulOk (by omega) (by omega) (by decide), X7, x7_text, x7_len, okF (.inl rfl) x0, 0, X7, -1000, rfl, ⟨.inl rfl, x1, by rw [x7_nd]; decide, by decide, by decide⟩, by rw [x7_rat]; exact x7_eu, 0, X7, -1000, rfl, x0, n2, .inr ⟨by decide, by decide⟩, by decide, by decide, ite_yes (decide_eq_true e1) ⟨0, X7, -1000, rfl, x0, n2, .inr (by decide), 0, X7, -1000, rfl, x0, n2, .inr (by decide), 0, X7, -1000, rfl, x0, n2, .inr (by decide), ?_⟩⟩
    rw [v1, v2, v3]
    have sh : shp (D.lst [D.int 0, D.int 1, D.int 1]) := (shpN_lst (n := 1) (shpNs_cons shpN_int (shpNs_cons shpN_int (shpNs_cons shpN_int shpNs_nil)))).shp
    refine ⟨sh, sh, ?_⟩
    rw [deq_refl sh]
    exact k
end

theorem turn92 {s c e : Int} (hs : s = 0 ∨ s = 1) : floI (1 - s) c e = -ceiI s c e ∧ neaI (1 - s) c e = -neaI s c e ∧ sgnI (1 - s) (cutI c e).1 = -sgnI s (cutI c e).1 := by
  unfold floI ceiI neaI sgnI
  rcases hs with rfl | rfl
  · rw [if_pos (show (1 : Int) - 0 = 1 by decide), if_neg (show ¬ (0 : Int) = 1 by decide), if_pos (show (1 : Int) - 0 = 1 by decide), if_neg (show ¬ (0 : Int) = 1 by decide)]
    refine ⟨?_, rfl, rfl⟩
    rw [show decide ((1 : Int) - 0 = 1) = true by decide, show decide ((0 : Int) = 0) = true by decide]
    omega
  · rw [if_neg (show ¬ (1 : Int) - 1 = 1 by decide), if_pos (show (1 : Int) = 1 by decide), if_neg (show ¬ (1 : Int) - 1 = 1 by decide), if_pos (show (1 : Int) = 1 by decide)]
    rw [show decide ((1 : Int) - 1 = 1) = false by decide, show decide ((1 : Int) = 0) = false by decide, Bool.and_false]
    refine ⟨?_, ?_, ?_⟩
    · show _ - (0 : Int) = -(_ + (0 : Int))
      omega
    · omega
    · omega
section
variable {P : Program} {w : World} {K : PySem.W.Frag} {mg : Str → Option Value} {base : Heap}
theorem ok_law (T : Tx K mg) {fd : FuncData} (F : FunD K "law" "law" (defArgs s_law) (defBody s_law) (defScope s_law) [] [] (He.fAd K ("law", none)) fd) : FnOk P w K mg base CX0 20 (He.fAd K ("law", none)) fd ["_law_script"] (spP K g_law) := by
  obtain ⟨fd__law_well, G__law_well, b__law_well, k__law_well⟩ := ok__law_well (P := P) (w := w) (base := base) T
  obtain ⟨fd__law_number, G__law_number, b__law_number, k__law_number⟩ := ok__law_number (P := P) (w := w) (base := base) T
  obtain ⟨fd__law_tens, G__law_tens, b__law_tens, k__law_tens⟩ := ok__law_tens (P := P) (w := w) (base := base) T
  obtain ⟨fd__law_stays, G__law_stays, b__law_stays, k__law_stays⟩ := ok__law_stays (P := P) (w := w) (base := base) T
  obtain ⟨fd__law_integers_right, G__law_integers_right, b__law_integers_right, k__law_integers_right⟩ := ok__law_integers_right (P := P) (w := w) (base := base) T
  obtain ⟨fd__law_ratio_right, G__law_ratio_right, b__law_ratio_right, k__law_ratio_right⟩ := ok__law_ratio_right (P := P) (w := w) (base := base) T
  obtain ⟨fd_Decimal___init__, G_Decimal___init__, b_Decimal___init__, k_Decimal___init__⟩ := ok_Decimal___init__ (P := P) (w := w) (base := base) T
  obtain ⟨fd_truncated, G_truncated, b_truncated, k_truncated⟩ := ok_truncated (P := P) (w := w) (base := base) T
  obtain ⟨fd_nearest, G_nearest, b_nearest, k_nearest⟩ := ok_nearest (P := P) (w := w) (base := base) T
  obtain ⟨fd_floored, G_floored, b_floored, k_floored⟩ := ok_floored (P := P) (w := w) (base := base) T
  obtain ⟨fd_ceiled, G_ceiled, b_ceiled, k_ceiled⟩ := ok_ceiled (P := P) (w := w) (base := base) T
  obtain ⟨fd__law_pick, G__law_pick, b__law_pick, k__law_pick⟩ := ok__law_pick (P := P) (w := w) (base := base) T
  obtain ⟨fd__law_size, G__law_size, b__law_size, k__law_size⟩ := ok__law_size (P := P) (w := w) (base := base) T
  obtain ⟨fd__law_draw, G__law_draw, b__law_draw, k__law_draw⟩ := ok__law_draw (P := P) (w := w) (base := base) T
  obtain ⟨fd__law_zero_right, G__law_zero_right, b__law_zero_right, k__law_zero_right⟩ := ok__law_zero_right (P := P) (w := w) (base := base) T
  obtain ⟨fd__law_tiny_right, G__law_tiny_right, b__law_tiny_right, k__law_tiny_right⟩ := ok__law_tiny_right (P := P) (w := w) (base := base) T
  obtain ⟨fd__law_long_right, G__law_long_right, b__law_long_right, k__law_long_right⟩ := ok__law_long_right (P := P) (w := w) (base := base) T
  refine okP (k := 19) F sc_law (fun cdv A outer s H E hr => PSs.nox ((qss_cons (qs_forL (ps_for PassesOwn.never rfl (pi_list (q_op op_cat r_catL (q_slice sl_list r_slR (q_var (pv 0)) qo_none (qo_some (q_int pe_int))) (q_lst (qa_cons (q_int pe_int) (qa_cons (q_int pe_int) qa_nil))))) (qg_name (pg_name (i := 1) sc_law.nd rfl (Or.inl rfl)))
 (qss_cons (qs_set (ps_set (i := 2) sc_law.nd rfl (Or.inl rfl) (q_call G__law_well (hr.mono (by decide)) (by rfl) T.g__law_well k__law_well b__law_well (qa_cons (q_var (pv 1)) qa_nil))))
 (qss_one (qs_forR (ps_for PassesOwn.never rfl (pi_range1 (by rfl) T.n_range (qa_cons (q_int pe_int) qa_nil)) (qg_name (pg_name (i := 3) sc_law.nd rfl (Or.inl rfl)))
 (qss_cons (qs_set (ps_set (i := 4) sc_law.nd rfl (Or.inl rfl) (q_call G__law_number (hr.mono (by decide)) (by rfl) T.g__law_number k__law_number b__law_number (qa_cons (q_var (pv 2)) qa_nil))))
 (qss_cons (qs_set (ps_set (i := 5) sc_law.nd rfl (Or.inl rfl) (q_op op_sub r_I0 (q_int pe_int) (q_op op_mulW r_I (q_int pe_int) (q_fld f_sign T.cl_Decimal T.no_Decimal_sign (q_var (pv 4)))))))
 (qss_cons (qs_par (ps_par (i := 6) (j := 7) (by rfl) sc_law.nd rfl rfl (by decide) rfl rfl (qa_cons (q_op op_mulW r_I (q_op op_mulW r_I (q_var (pv 5)) (q_fld f_coef T.cl_Decimal T.no_Decimal_coefficient (q_var (pv 4)))) (q_call G__law_tens (hr.mono (by decide)) (by rfl) T.g__law_tens k__law_tens b__law_tens (qa_cons (q_cb (max_i rfl) c_max (by rfl) T.n_max (by decide +kernel) (qa_cons (q_fld f_exp T.cl_Decimal T.no_Decimal_exponent (q_var (pv 4))) (qa_cons (q_int pe_int) qa_nil))) qa_nil))) (qa_cons (q_call G__law_tens (hr.mono (by decide)) (by rfl) T.g__law_tens k__law_tens b__law_tens (qa_cons (q_cb (max_i rfl) c_max (by rfl) T.n_max (by decide +kernel) (qa_cons (q_un un_neg r_neg (q_fld f_exp T.cl_Decimal T.no_Decimal_exponent (q_var (pv 4)))) (qa_cons (q_int pe_int) qa_nil))) qa_nil)) qa_nil)) (by rfl)))
 (qss_cons (qs_if (PW.pt (qt_or (qt_not (qt_val (q_call G__law_ratio_right (hr.mono (by decide)) (by rfl) T.g__law_ratio_right k__law_ratio_right b__law_ratio_right (qa_cons (q_var (pv 4)) qa_nil)))) (qt_or (qt_not (qt_val (q_call G__law_integers_right (hr.mono (by decide)) (by rfl) T.g__law_integers_right k__law_integers_right b__law_integers_right (qa_cons (q_var (pv 4)) (qa_cons (q_var (pv 6)) (qa_cons (q_var (pv 7)) qa_nil)))))) (qt_or1 (qt_not (qt_val (q_call G__law_stays (hr.mono (by decide)) (by rfl) T.g__law_stays k__law_stays b__law_stays (qa_cons (q_var (pv 4)) qa_nil))))))))
 (qss_one (qs_ret (q_bl pe_bl)))
 qss_nil)
 (qss_cons (qs_set (ps_set (i := 8) sc_law.nd rfl (Or.inl rfl) (q_mkDec T.m_Decimal G_Decimal___init__ (hr.mono (by decide)) (by rfl) T.g_Decimal b_Decimal___init__ (qa_cons (q_op op_sub r_I0 (q_int pe_int) (q_fld f_sign T.cl_Decimal T.no_Decimal_sign (q_var (pv 4)))) (qa_cons (q_fld f_coef T.cl_Decimal T.no_Decimal_coefficient (q_var (pv 4))) (qa_cons (q_fld f_exp T.cl_Decimal T.no_Decimal_exponent (q_var (pv 4))) qa_nil))))))
 (qss_cons (qs_if (qt_cmp (op_neD hr.units) r_neD (q_lst (qa_cons (q_call G_floored (hr.mono (by decide)) (by rfl) T.g_floored k_floored b_floored (qa_cons (q_var (pv 8)) qa_nil)) (qa_cons (q_call G_nearest (hr.mono (by decide)) (by rfl) T.g_nearest k_nearest b_nearest (qa_cons (q_var (pv 8)) qa_nil)) (qa_cons (q_call G_truncated (hr.mono (by decide)) (by rfl) T.g_truncated k_truncated b_truncated (qa_cons (q_var (pv 8)) qa_nil)) qa_nil)))) (q_lst (qa_cons (q_un un_neg r_neg (q_call G_ceiled (hr.mono (by decide)) (by rfl) T.g_ceiled k_ceiled b_ceiled (qa_cons (q_var (pv 4)) qa_nil))) (qa_cons (q_un un_neg r_neg (q_call G_nearest (hr.mono (by decide)) (by rfl) T.g_nearest k_nearest b_nearest (qa_cons (q_var (pv 4)) qa_nil))) (qa_cons (q_un un_neg r_neg (q_call G_truncated (hr.mono (by decide)) (by rfl) T.g_truncated k_truncated b_truncated (qa_cons (q_var (pv 4)) qa_nil))) qa_nil)))) (nomark _))
 (qss_one (qs_ret (q_bl pe_bl)))
 qss_nil)
 (qss_cons (qs_set (ps_set (i := 9) sc_law.nd rfl (Or.inl rfl) (q_un un_neg r_neg (q_call G__law_pick (hr.mono (by decide)) (by rfl) T.g__law_pick k__law_pick b__law_pick (qa_cons (q_var (pv 2)) (qa_cons (q_lst (qa_cons (q_op op_pow r_I (q_int pe_int) (q_int pe_int)) (qa_cons (q_op op_add r_I0 (q_op op_add r_I0 (q_call G__law_size (hr.mono (by decide)) (by rfl) T.g__law_size k__law_size b__law_size (qa_cons (q_fld f_coef T.cl_Decimal T.no_Decimal_coefficient (q_var (pv 4))) qa_nil)) (q_int pe_int)) (q_call G__law_draw (hr.mono (by decide)) (by rfl) T.g__law_draw k__law_draw b__law_draw (qa_cons (q_var (pv 2)) (qa_cons (q_int pe_int) qa_nil)))) qa_nil))) qa_nil))))))
 (qss_one (qs_if (PW.pt (qt_or (qt_not (qt_val (q_call G__law_tiny_right (hr.mono (by decide)) (by rfl) T.g__law_tiny_right k__law_tiny_right b__law_tiny_right (qa_cons (q_mkDec T.m_Decimal G_Decimal___init__ (hr.mono (by decide)) (by rfl) T.g_Decimal b_Decimal___init__ (qa_cons (q_fld f_sign T.cl_Decimal T.no_Decimal_sign (q_var (pv 4))) (qa_cons (q_fld f_coef T.cl_Decimal T.no_Decimal_coefficient (q_var (pv 4))) (qa_cons (q_var (pv 9)) qa_nil)))) qa_nil)))) (qt_or1 (qt_not (qt_val (q_call G__law_zero_right (hr.mono (by decide)) (by rfl) T.g__law_zero_right k__law_zero_right b__law_zero_right (qa_cons (q_var (pv 2)) (qa_cons (q_fld f_sign T.cl_Decimal T.no_Decimal_sign (q_var (pv 4))) qa_nil))))))))
 (qss_one (qs_ret (q_bl pe_bl)))
 qss_nil)))))))))))))))
 (qss_one (qs_ret (q_call0 G__law_long_right (hr.mono (by decide)) (by rfl) T.g__law_long_right k__law_long_right b__law_long_right)))))) (fun ds O Q h => ?_) (fun ds O Q h => ?_)
  · obtain ⟨ns, rfl, _⟩ := h
    rfl
  · obtain ⟨ns, rfl, hn, k⟩ := h
    walk_at "q"
    have hcut : ∀ d ∈ cutL (List.map D.int ns) none (some 20) ++ [D.int 0, D.int 1], ∃ i, d = D.int i := fun d hd => by
      rcases List.mem_append.mp hd with hd | hd
      · unfold cutL at hd
        obtain ⟨i, _, rfl⟩ := List.mem_map.mp (List.mem_of_mem_drop (List.mem_of_mem_take hd))
        exact ⟨i, rfl⟩
      · simp only [List.mem_cons, List.not_mem_nil, or_false] at hd
        rcases hd with rfl | rfl <;> exact ⟨_, rfl⟩
    have lc := cutL_len (List.map D.int ns) none (some 20)
    rw [List.length_map] at lc
    refine ⟨_, rfl, by omega, fun i ρ O' => ∃ s1 s2 s3 s4 s5 s6 s7 s8 s9, ρ = [some (D.scr (List.map D.int ns)), s1, s2, s3, s4, s5, s6, s7, s8, s9], ⟨_, _, _, _, _, _, _, _, _, rfl⟩, ?_, ?_⟩
    · rintro i d ρ O' hi ⟨s1, s2, s3, s4, s5, s6, s7, s8, s9, rfl⟩
      obtain ⟨x, rfl⟩ := hcut d (List.mem_of_getElem? hi)
      walk_at "q"
      intro W hW
      refine ⟨by decide, by decide, fun j ρ' O1 => ∃ n s3 s4 s5 s6 s7 s8 s9, O1 W = some (.well n) ∧ 900000000 - 100000 * j ≤ n ∧ ρ' = [some (D.scr (List.map D.int ns)), some (D.int x), some (D.ref W), s3, s4, s5, s6, s7, s8, s9], ⟨_, _, _, _, _, _, _, _, updO_same, by omega, rfl⟩, ?_, ?_⟩
      · rintro j d ρ' O1 hj ⟨n, s3, s4, s5, s6, s7, s8, s9, w1, hn1, rfl⟩
        obtain ⟨hj3, rfl⟩ := rngD_get hj
        have hj3 : j < 2 := hj3
        walk_at "q"
        refine ⟨n, w1, by omega, fun s c e n1 g hT hn1' => ?_⟩
        obtain ⟨b1, b2, b3⟩ := g.big
        have sg := g.sg
        have c0 : 0 ≤ c := Int.le_of_lt g.c0
        have e0 := g.e0
        have e1 := g.e1
        have cn := g.cn
        have cn2 : nd c ≤ 2000 := by omega
        have B0 := botI_pos e
        have cl : c.natAbs < 10 ^ 1000 := natAbs_lt c0 (Int.lt_of_lt_of_le (lt_nd c0) (pw_mono (by omega)))
        have sc : ((1 - 2 * s) * c).natAbs < 10 ^ 1000 := by
          rcases sg with rfl | rfl
          · rw [show (1 - 2 * (0 : Int)) = 1 by decide, Int.one_mul]
            exact cl
          · rw [show (1 - 2 * (1 : Int)) = -1 by decide, Int.neg_mul, Int.one_mul, Int.natAbs_neg]
            exact cl
        have sT : (1 - 2 * s) * c * 10 ^ (max e 0).toNat = if s = 1 then -topI c e else topI c e := by
          show _ = if s = 1 then -(c * 10 ^ (max e 0).toNat) else c * 10 ^ (max e 0).toNat
          rcases sg with rfl | rfl
          · rw [if_neg (by decide), show (1 - 2 * (0 : Int)) = 1 by decide, Int.one_mul]
          · rw [if_pos rfl, show (1 - 2 * (1 : Int)) = -1 by decide, Int.neg_mul, Int.one_mul, Int.neg_mul]
        obtain ⟨t1, t2, t3⟩ := turn92 (c := c) (e := e) sg
        have sh : ∀ a b x : Int, shp (D.lst [D.int a, D.int b, D.int x]) := fun a b x => (shpN_lst (n := 1) (shpNs_cons shpN_int (shpNs_cons shpN_int (shpNs_cons shpN_int shpNs_nil)))).shp
        have cp : CPow 10 18 := ⟨by decide, by decide, by decide⟩
        have e18 : (10 : Int) ^ Int.toNat 18 = 1000000000000000000 := by decide
        refine ⟨mulW_of (m := 1) (n := 1) (by decide) (by omega) (by decide), mulW_of (m := 1) (by omega) cl (by decide), by omega, by omega, mulW_of (n := 101) sc (by rw [abs10]; exact Nat.pow_lt_pow_right (by decide) (by omega)) (by decide), by omega, by omega, s, c, e, rfl, g, rat_eu g.c0 hT, s, c, e, rfl, sT, rfl, g, s, c, e, rfl, g, okF (by omega) c0, 1 - s, c, e, rfl, c0, cn2, .inr (by omega), 1 - s, c, e, rfl, c0, cn2, .inr (by omega), 1 - s, c, e, rfl, c0, cn2, .inr (by omega), s, c, e, rfl, c0, cn2, .inr (by omega), s, c, e, rfl, c0, cn2, .inr (by omega), s, c, e, rfl, c0, cn2, .inr (by omega), sh _ _ _, sh _ _ _, ?_⟩
        rw [t1, t2, t3]
        refine ite_no (congrArg (fun b => !b) (deq_refl (sh _ _ _))) ⟨cp, c0, by omega, by decide, by decide, by omega, fun v v0 v1 => ⟨by decide, by omega, fun d hd => ?_⟩⟩
        obtain ⟨z, rfl, hz⟩ : ∃ z, d = D.int z ∧ nd c < z := by
          rw [e18] at hd
          simp only [List.mem_cons, List.not_mem_nil, or_false] at hd
          rcases hd with rfl | rfl
          · exact ⟨_, rfl, by omega⟩
          · exact ⟨_, rfl, by omega⟩
        exact ⟨z, rfl, okF sg c0, s, c, -z, rfl, sg, g.c0, cn, by omega, by omega, sg, fun n' hn' => by omega⟩
      · rintro ρ' O1 ⟨n, s3, s4, s5, s6, s7, s8, s9, w1, hn1, rfl⟩
        exact ⟨_, _, _, _, _, _, _, _, _, rfl⟩
    · rintro ρ O' ⟨s1, s2, s3, s4, s5, s6, s7, s8, s9, rfl⟩
      walk_at "q"
      exact ⟨rfl, k _⟩
end

end Tw
/-! The top's run in parts: each part is one kernel run from a written state to a written state. -/
noncomputable section
namespace Hc
open PySem PySem.W PySem.Calls PyProof.Rows HandSHeadRun
def insAll : List (Nat × Obj) → BT → Option BT
  | [], t => some t
  | (i, o) :: r, t => match ((t.ins i o).get i).isSome with
    | true => insAll r (t.ins i o)
    | false => none
def bt0 (P : Params) : BT := match putAll (boot_heap P).objs.toList .nil 0 with
  | some (t, _) => t
  | none => .nil
section
variable (st : SharedT → Thread → Option (SharedT × Thread)) (n0 : Nat) (ann : Option Value) (b : Nat)
def segF : Nat → SharedT → Thread → Option (Flow × SharedT × Code × Pos)
  | 0, _, _ => none
  | m + 1, s, t => match endAt b t with
    | some f => some (f, s, t.code, t.pos)
    | none => match stepOk n0 ann t with
      | false => none
      | true => match st s t with
        | some (s', t') => frS s' fun s' => segF m s' t'
        | none => none
end
theorem segF_ok {tb : String → Option Builtin} {p : Program} {w : World} {n0 : Nat} {ann : Option Value} {b : Nat} : ∀ {m : Nat} {s : SharedT} {t : Thread} {f : Flow} {s' : SharedT} {c : Code} {ps : Pos},
    segF (stepT (denote tb) p w) n0 ann b m s t = some (f, s', c, ps) → segRun tb p w n0 ann b m s.abs t = some (f, s'.abs, c, ps)
  | 0, _, _, _, _, _, _, h => by cases h
  | m + 1, s, t, f, s', c, ps, h => by
    have h1 : (match endAt b t with
      | some f => some (f, s, t.code, t.pos)
      | none => match stepOk n0 ann t with
        | false => none
        | true => match stepT (denote tb) p w s t with
          | some (s', t') => frS s' fun s' => segF (stepT (denote tb) p w) n0 ann b m s' t'
          | none => none) = some (f, s', c, ps) := h
    unfold segRun
    cases he : endAt b t with
    | some g =>
      rw [he] at h1
      have h2 : some (g, s, t.code, t.pos) = some (f, s', c, ps) := h1
      cases h2
      rfl
    | none =>
      rw [he] at h1
      cases hk : stepOk n0 ann t with
      | false =>
        rw [hk] at h1
        cases h1
      | true =>
        rw [hk] at h1
        have h2 : (match stepT (denote tb) p w s t with
          | some (s', t') => frS s' fun s' => segF (stepT (denote tb) p w) n0 ann b m s' t'
          | none => none) = some (f, s', c, ps) := h1
        cases hs : stepT (denote tb) p w s t with
        | none =>
          rw [hs] at h2
          cases h2
        | some r =>
          obtain ⟨s2, t2⟩ := r
          rw [hs] at h2
          have h3 : (frS s2 fun s' => segF (stepT (denote tb) p w) n0 ann b m s' t2) = some (f, s', c, ps) := h2
          rw [frS_eq] at h3
          have q := segF_ok h3
          show (match step (denote tb) p w s.abs t with
            | .go s' t' => segRun tb p w n0 ann b m s' t'
            | .halt _ _ => none) = some (f, s'.abs, c, ps)
          rw [stepT_spec hs]
          exact q
/-- a part, by the library's twins -/
theorem seg_of {p : Program} {w : World} {n0 : Nat} {ann : Option Value} {b m : Nat} {s s' : SharedT} {t : Thread} {f : Flow} {c : Code} {ps : Pos}
    (h : segF (stepQ (denQ tabQ) p w) n0 ann b m s t = some (f, s', c, ps)) : segRun treeTable p w n0 ann b m s.abs t = some (f, s'.abs, c, ps) := by
  refine segF_ok ?_
  rw [stepQ_eq, denQ_eq, tabQ_eq]
  exact h
def goT (st : SharedT → Thread → Option (SharedT × Thread)) (n0 : Nat) (ann : Option Value) : Nat → SharedT → Thread → Option (SharedT × Thread)
  | 0, s, t => some (s, t)
  | m + 1, s, t => match through t with
    | true => none
    | false => match stepOk n0 ann t with
      | false => none
      | true => match st s t with
        | some (s', t') => frS s' fun s' => goT st n0 ann m s' t'
        | none => none
theorem goT_ok {tb : String → Option Builtin} {p : Program} {w : World} {n0 : Nat} {ann : Option Value} : ∀ {m : Nat} {s s' : SharedT} {t t' : Thread},
    goT (stepT (denote tb) p w) n0 ann m s t = some (s', t') → topGo tb p w n0 ann m s.abs t = some (s'.abs, t')
  | 0, _, _, _, _, h => by
    cases h
    rfl
  | m + 1, s, s', t, t', h => by
    have h1 : (match through t with
      | true => none
      | false => match stepOk n0 ann t with
        | false => none
        | true => match stepT (denote tb) p w s t with
          | some (s', t') => frS s' fun s' => goT (stepT (denote tb) p w) n0 ann m s' t'
          | none => none) = some (s', t') := h
    unfold topGo
    cases ht : through t with
    | true =>
      rw [ht] at h1
      cases h1
    | false =>
      rw [ht] at h1
      cases hk : stepOk n0 ann t with
      | false =>
        rw [hk] at h1
        cases h1
      | true =>
        rw [hk] at h1
        have h2 : (match stepT (denote tb) p w s t with
          | some (s', t') => frS s' fun s' => goT (stepT (denote tb) p w) n0 ann m s' t'
          | none => none) = some (s', t') := h1
        cases hs : stepT (denote tb) p w s t with
        | none =>
          rw [hs] at h2
          cases h2
        | some r =>
          obtain ⟨s2, t2⟩ := r
          rw [hs] at h2
          have h3 : (frS s2 fun s' => goT (stepT (denote tb) p w) n0 ann m s' t2) = some (s', t') := h2
          rw [frS_eq] at h3
          have q := goT_ok h3
          show (match step (denote tb) p w s.abs t with
            | .go s' t' => topGo tb p w n0 ann m s' t'
            | .halt _ _ => none) = some (s'.abs, t')
          rw [stepT_spec hs]
          exact q
theorem pre_of {p : Program} {w : World} {os : OsState} {n0 m : Nat} {ann : Option Value} {s' : SharedT} {t t' : Thread} (e : putAll (boot_heap w.params).objs.toList .nil 0 = some (bt0 w.params, n0))
    (h : goT (stepQ (denQ tabQ) p w) n0 ann m (bootT w os (bt0 w.params, n0)) t = some (s', t')) : topGo treeTable p w n0 ann m ⟨boot_heap w.params, #[], boot_drawn, boot_toks, os⟩ t = some (s'.abs, t') := by
  have h2 : goT (stepT (denote treeTable) p w) n0 ann m (bootT w os (bt0 w.params, n0)) t = some (s', t') := by
    rw [stepQ_eq, denQ_eq, tabQ_eq]
    exact h
  have q := goT_ok h2
  have eh := putAll_heap e
  have eb : (bootT w os (bt0 w.params, n0)).abs = ⟨boot_heap w.params, #[], boot_drawn, boot_toks, os⟩ := by
    show (⟨absHeap (bt0 w.params) n0 (boot_heap w.params).life, #[], boot_drawn, boot_toks, os⟩ : Shared) = _
    rw [eh]
  rw [eb] at q
  exact q
theorem left_cut {p q : Program} {loose : List Str} {Xt : Shared → Bool} {α : Type} {Yf : Shared → α} {Ya : World → α} {N M : Nat}
    (e : opening p = plainProg p.main.scope.names) (hN : Nat.ble 600 N = true) (f : ∀ s, fenceModules? p s = some s) (le : Nat.ble M N = true)
    (run : ∀ (w : World) (os : OsState), ∃ s : Shared, topRun treeTable p w (boot_heap w.params).objs.size (bootAnn w) M ⟨boot_heap w.params, #[], boot_drawn, boot_toks, os⟩ (topStub p) = some s ∧
      looksF p (boot_heap w.params) s = true ∧ openSeen q loose (importedModules p.main.body) Xt true s = openGood q loose ∧ Yf s = Ya w) :
    LeftO p q loose Xt Yf Ya N true := fun w => by
  obtain ⟨⟨h, gs, d, k, os⟩, a, a'⟩ := Option.map_eq_some_iff.mp (boot_open e hN f w)
  obtain ⟨rfl, rfl, rfl, rfl⟩ : h = boot_heap w.params ∧ gs = Array.mk [] ∧ d = boot_drawn ∧ k = boot_toks := by simpa using a'
  obtain ⟨s, hs, l1, l2, l3⟩ := run w os
  have r := topRun_mono (N - M) _ _ _ _ hs
  rw [show M + (N - M) = N by have := Nat.le_of_ble_eq_true le; omega] at r
  have l1' : (staticsOk (importedModules p.main.body) (boot_heap w.params) s.heap && namesBound p s.heap && gensDone s && laidKept (boot_heap w.params) s.heap) = true := l1
  have t : topFrom treeTable p w N ⟨boot_heap w.params, Array.mk [], boot_drawn, boot_toks, os⟩ = some s := by
    unfold topFrom
    dsimp only
    rw [boot_ns]
    show (topRun treeTable p w (boot_heap w.params).objs.size (bootAnn w) N ⟨boot_heap w.params, #[], boot_drawn, boot_toks, os⟩ (topStub p)).bind _ = _
    rw [r]
    show (match staticsOk (importedModules p.main.body) (boot_heap w.params) s.heap && namesBound p s.heap && gensDone s && laidKept (boot_heap w.params) s.heap with | true => some s | false => none) = _
    rw [l1']
  unfold openEnds
  rw [a]
  show (topFrom treeTable p w N _).map _ = _
  rw [t]
  exact congrArg some (Prod.ext l2 l3)
theorem head_cut {r : OpenRow} {q : Program} {H : Hook} {M : Nat} {loose : List PySem.Str} {d : DefRec} {kwd : List (PySem.Str × PySem.Expr)}
    (e : opening r.prog = plainProg r.prog.main.scope.names) (f : ∀ s, fenceModules? r.prog s = some s)
    (run : ∀ (w : World) (os : OsState), ∃ s : Shared, topRun treeTable r.prog w (boot_heap w.params).objs.size (bootAnn w) M ⟨boot_heap w.params, #[], boot_drawn, boot_toks, os⟩ (topStub r.prog) = some s ∧
      looksF r.prog (boot_heap w.params) s = true ∧ openSeen q loose (importedModules r.prog.main.body) (fun s => xlAt q [] s && recOk r.toRowW.records s) true s = openGood q loose ∧ H.obs s = H.val w)
    (hdef : defOf q r.name = some (d, kwd)) (hp : r.prog.theDef r.name = some (d.params, d.body, d.scope)) (hk : kwWritten? d.params.kwonlyargs d.params.kw_defaults = some kwd)
    (hwr : (!r.writes || r.records.isEmpty) = true) (k1 : r.wellSaid = true) (ok : (chainsOk q && opensWell r.prog && (frees r.toRowW && r.within.isEmpty)) = true) (hb : r.prog.bare) (hw : r.toRowW.promised)
    (call : WalkO q loose (XL q []) H.says r.toRowW d kwd fun f vs => PySem.call f vs) : r.Holds := by
  have left : LeftO r.prog q loose (fun s => xlAt q [] s && recOk r.toRowW.records s) H.obs H.val (M + 600) true :=
    left_cut (M := M) e (Nat.ble_eq_true_of_le (by omega)) f (Nat.ble_eq_true_of_le (by omega)) run
  exact holds_open (r := r) (q := q) (loose := loose) (XP := XL q []) (YP := H.says) (d := d) (kwd := kwd) left H.of H.keeps (fun s z => xl_of s (Bool.and_eq_true_iff.mp z).1) XL.keeps hdef hp hk (fun s z => recFacts_of (Bool.and_eq_true_iff.mp z).2) hwr k1 ok hb hw call
/-- a Hook over given addresses, with further tests -/
def hookX (as : List Addr) (fa : List He.Fa) (fn : List He.DefD) (ex : List (PySem.W.Frag → Bool)) : PySem.W.Hook where
  α := He.AlD × Bool
  obs := fun s => (He.obsD fa fn (He.frG s.heap.get? as), ex.all fun f => f (He.frG s.heap.get? as))
  val := fun _ => (He.valD fn, true)
  says := fun _ h => ∃ K : PySem.W.Frag, K.In h ∧ He.SaysD fa fn K ∧ (ex.all fun f => f K) = true
  of := fun _ _ e => ⟨_, He.frG_in, congrArg Prod.fst e, congrArg Prod.snd e⟩
  keeps := fun _ _ _ ⟨K, hK, c⟩ k => ⟨K, PySem.W.Frag.In.keeps hK k, c⟩
theorem hookX_obs {as : List Addr} {fa : List He.Fa} {fn : List He.DefD} {ex : List (PySem.W.Frag → Bool)} {s : SharedT} {w : World} {K : PySem.W.Frag} (hk : He.frG (getT s) as = K) (h : He.obsD fa fn K = He.valD fn) (h2 : (ex.all fun f => f K) = true) :
    (hookX as fa fn ex).obs s.abs = (hookX as fa fn ex).val w := by
  have e : getT s = s.abs.heap.get? := funext (getT_eq s)
  show (He.obsD fa fn (He.frG s.abs.heap.get? as), ex.all fun f => f (He.frG s.abs.heap.get? as)) = (He.valD fn, true)
  rw [← e, hk, h, h2]
theorem ex_at {ex : List (PySem.W.Frag → Bool)} {K : PySem.W.Frag} (h : (ex.all fun f => f K) = true) (i : Nat) {f : PySem.W.Frag → Bool} (e : ex[i]? = some f) : f K = true := List.all_eq_true.mp h f (List.mem_of_getElem? e)
end Hc
end

/-! tablesWhole of a program, the body in parts. -/
namespace Tb
open PySem PySem.TablesWhole
theorem wSs_app (top sc : Scope) (cx : PySem.TablesWhole.Ctx) (b : List Stmt) : ∀ a : List Stmt, wSs holds top cx sc (a ++ b) = (wSs holds top cx sc a && wSs holds top cx sc b)
  | [] => by
    rw [List.nil_append, wSs]
    rfl
  | s :: r => by
    rw [List.cons_append, wSs, wSs, wSs_app top sc cx b r]
    exact (Bool.and_assoc _ _ _).symm
theorem tw_of {p : Program} (h1 : noTwice p.main.scope = true) (told : wSs gather p.main.scope ⟨p.main.scope, [], [], [], none⟩ p.main.scope p.main.body = [])
    (hb : wSs holds p.main.scope ⟨p.main.scope, [], [], [], none⟩ p.main.scope p.main.body = true) (e1 : p.modules = []) (e2 : p.parses = []) (e3 : p.harvested = []) : p.tablesWhole = true := by
  have hm : wModule holds p.main = true := by
    unfold wModule
    rw [told]
    show (true && (noTwice p.main.scope && (wSs holds p.main.scope ⟨p.main.scope, [], [], [], none⟩ p.main.scope p.main.body && true))) = true
    rw [h1, hb]
    rfl
  unfold Program.tablesWhole wProgram
  rw [e1, e2, e3]
  show (wModule holds p.main && _) = true
  rw [hm]
  rfl
end Tb

noncomputable section
namespace Ht
open PySem PySem.W PySem.Calls PyProof.Rows HandSHeadRun Hc Tw L2
abbrev pr : Program := PySem.Challenge.pw_tenwhole_k92_whole_ratios_and_integers
def env : Env := { scope := pr.main.scope, locals := mainNs, globals := mainNs, cells := [], code := (.ref 13), frame := some 14 }
def cE : Code := .body (behindTheImports pr) env
abbrev fq : Pos := ⟨0, 0, 0, 0⟩
abbrev an : Option Value := (some (.ref 6))
def o_pre_11 (P : Params) : Obj := ⟨(.type "tuple"), none, (.seq ⟨([] : List Value)⟩ 0), ⟨[]⟩⟩
def o_pre_12 (P : Params) : Obj := ⟨.none, none, (.fields ⟨([] : List Value)⟩), ⟨[]⟩⟩
def o_pre_13 (P : Params) : Obj := ⟨(.type "code"), none, (.fields ⟨(([(.str "<module>" 182), (.str "<module>" 183), (.str "/claim/cut.py" 184), (.int (1) 0), (.int (0) 0), (.int (0) 0), (.int (0) 0), (.int (0) 0), (.ref 11), (.bool false), (.int (181) 0), (.ref 12)] : List Value) ++ ([.none, .none, .none, .none, (.int (185) 0), (.int (1) 0), (.str "/claim/cut.py" 186)] : List Value))⟩), ⟨[]⟩⟩
def o_pre_14 (P : Params) : Obj := ⟨(.type "frame"), none, .plain, ⟨[(some (.ref 13)), (some (.ref 3)), (some (.ref 3)), none, (some (.str "__main__" 164)), none, (some (.ref 0))]⟩⟩
def l_pre (P : Params) : List (Nat × Obj) := ([(11, o_pre_11 P), (12, o_pre_12 P), (13, o_pre_13 P), (14, o_pre_14 P)] : List (Nat × Obj))
def t_pre (P : Params) : BT := (insAll (l_pre P) (bt0 P)).getD .nil
def S_pre (w : World) (os : OsState) : SharedT := ⟨t_pre w.params, 15, {}, #[], ⟨0, 0, 0, 0⟩, 187, os⟩
def l_block (P : Params) : List (Nat × Obj) := ([] : List (Nat × Obj))
def t_block (P : Params) : BT := (insAll (l_block P) (t_pre P)).getD .nil
def S_block (w : World) (os : OsState) : SharedT := ⟨t_block w.params, 15, {}, #[], ⟨0, 0, 0, 0⟩, 187, os⟩
def o_14_3 (P : Params) : Obj := ⟨(.type "dict"), none, (.dict ⟨(([⟨PyData.keyHash P "__name__", (.str "__name__" 165), (.str "tenwhole.decimals" 296)⟩, ⟨PyData.keyHash P "__doc__", (.str "__doc__" 166), .none⟩, ⟨PyData.keyHash P "__package__", (.str "__package__" 167), .none⟩, ⟨PyData.keyHash P "__loader__", (.str "__loader__" 168), (.builtin "__main__.__loader__#opaque")⟩, ⟨PyData.keyHash P "__spec__", (.str "__spec__" 169), .none⟩, ⟨PyData.keyHash P "__annotations__", (.str "__annotations__" 170), (.ref 6)⟩, ⟨PyData.keyHash P "__builtins__", (.str "__builtins__" 171), (.ref 4)⟩, ⟨PyData.keyHash P "__file__", (.str "__file__" 173), (.str "/claim/cut.py" 172)⟩, ⟨PyData.keyHash P "__cached__", (.str "__cached__" 174), .none⟩, ⟨PyData.keyHash P "_wall", (.str "_wall" 193), (.ref 21)⟩, ⟨PyData.keyHash P "TenError", (.str "TenError" 213), (.ref 31)⟩, ⟨PyData.keyHash P "NoOperand", (.str "NoOperand" 238), (.ref 51)⟩] : List DictEntry) ++ ([⟨PyData.keyHash P "NoDecimal", (.str "NoDecimal" 263), (.ref 70)⟩, ⟨PyData.keyHash P "NoValue", (.str "NoValue" 279), (.ref 82)⟩, ⟨PyData.keyHash P "TooGreat", (.str "TooGreat" 295), (.ref 94)⟩, ⟨PyData.keyHash P "STEP", (.str "STEP" 299), (.int (64) 298)⟩, ⟨PyData.keyHash P "GREAT", (.str "GREAT" 303), (.int (10000000000000000000000000000000000000000000000000000000000000000) 302)⟩, ⟨PyData.keyHash P "INFINITY", (.str "INFINITY" 305), (.str "F" 304)⟩, ⟨PyData.keyHash P "QUIET", (.str "QUIET" 307), (.str "n" 306)⟩, ⟨PyData.keyHash P "SIGNALING", (.str "SIGNALING" 309), (.str "N" 308)⟩, ⟨PyData.keyHash P "Decimal", (.str "Decimal" 365), (.ref 134)⟩] : List DictEntry))⟩ 21), ⟨[]⟩⟩
def o_14_12 (P : Params) : Obj := ⟨.none, none, (.fields ⟨(([(.int (1) 0), (.int (0) 0), (.ref 20), (.int (5) 0), (.int (0) 0), (.ref 27), (.int (7) 0), (.int (0) 0), (.ref 40), (.int (12) 0), (.int (0) 0), (.ref 59)] : List Value) ++ ([(.int (17) 0), (.int (0) 0), (.ref 78), (.int (19) 0), (.int (0) 0), (.ref 90), (.int (27) 0), (.int (0) 0), (.ref 102)] : List Value))⟩), ⟨[]⟩⟩
def o_14_15 (P : Params) : Obj := ⟨(.type "tuple"), none, (.seq ⟨([] : List Value)⟩ 0), ⟨[]⟩⟩
def o_14_16 (P : Params) : Obj := ⟨.none, none, (.fields ⟨([] : List Value)⟩), ⟨[]⟩⟩
def o_14_17 (P : Params) : Obj := ⟨(.type "tuple"), none, (.seq ⟨(([(.str "k" 190)] : List Value))⟩ 0), ⟨[]⟩⟩
def o_14_18 (P : Params) : Obj := ⟨(.type "tuple"), none, (.seq ⟨([] : List Value)⟩ 0), ⟨[]⟩⟩
def o_14_19 (P : Params) : Obj := ⟨.none, none, (.func ⟨"_wall", "_wall", defArgs (top 0), .stmts (defBody (top 0)), defScope (top 0), 0, [], .none, .none, .none, .none, none, .none, .none, 0⟩), ⟨[]⟩⟩
def o_14_20 (P : Params) : Obj := ⟨(.type "code"), none, (.fields ⟨(([(.str "_wall" 187), (.str "_wall" 188), (.str "/claim/cut.py" 189), (.int (1) 0), (.int (1) 0), (.int (0) 0), (.int (0) 0), (.int (3) 0), (.ref 15), (.bool true), (.int (181) 0), (.ref 16)] : List Value) ++ ([.none, (.ref 17), (.ref 18), (.ref 19), (.int (191) 0), (.int (1) 0), (.str "/claim/cut.py" 192)] : List Value))⟩), ⟨[]⟩⟩
def o_14_21 (P : Params) : Obj := ⟨(.type "function"), none, (.func ⟨"_wall", "_wall", defArgs (top 0), .stmts (defBody (top 0)), defScope (top 0), 3, [], .none, .none, .none, (.str "__main__" 164), none, (.ref 20), .none, 0⟩), ⟨[]⟩⟩
def o_14_22 (P : Params) : Obj := ⟨(.type "tuple"), none, (.seq ⟨(([(.type "ValueError")] : List Value))⟩ 0), ⟨[]⟩⟩
def o_14_23 (P : Params) : Obj := ⟨(.type "builtin_function_or_method"), none, (.fields ⟨(([(.builtin "type.__prepare__"), (.type "type")] : List Value))⟩), ⟨[]⟩⟩
def o_14_24 (P : Params) : Obj := ⟨(.type "dict"), none, (.dict ⟨(([⟨PyData.keyHash P "__module__", (.str "__module__" 203), (.str "tenwhole.signals" 194)⟩, ⟨PyData.keyHash P "__qualname__", (.str "__qualname__" 205), (.str "TenError" 204)⟩, ⟨PyData.keyHash P "__firstlineno__", (.str "__firstlineno__" 207), (.int (5) 206)⟩, ⟨PyData.keyHash P "__static_attributes__", (.str "__static_attributes__" 208), (.ref 29)⟩] : List DictEntry))⟩ 4), ⟨[]⟩⟩
def o_14_25 (P : Params) : Obj := ⟨(.type "tuple"), none, (.seq ⟨([] : List Value)⟩ 0), ⟨[]⟩⟩
def o_14_26 (P : Params) : Obj := ⟨.none, none, (.fields ⟨([] : List Value)⟩), ⟨[]⟩⟩
def o_14_27 (P : Params) : Obj := ⟨(.type "code"), none, (.fields ⟨(([(.str "TenError" 198), (.str "TenError" 199), (.str "/claim/cut.py" 200), (.int (5) 0), (.int (0) 0), (.int (0) 0), (.int (0) 0), (.int (0) 0), (.ref 25), (.bool false), (.int (181) 0), (.ref 26)] : List Value) ++ ([.none, .none, .none, .none, (.int (201) 0), (.int (5) 0), (.str "/claim/cut.py" 202)] : List Value))⟩), ⟨[]⟩⟩
def o_14_28 (P : Params) : Obj := ⟨(.type "frame"), none, .plain, ⟨[(some (.ref 27)), (some (.ref 3)), (some (.ref 24)), none, (some (.str "tenwhole.signals" 194)), none, (some (.ref 0))]⟩⟩
def o_14_29 (P : Params) : Obj := ⟨(.type "tuple"), none, (.seq ⟨([] : List Value)⟩ 0), ⟨[]⟩⟩
def o_14_30 (P : Params) : Obj := ⟨(.type "dict"), none, (.dict ⟨(([⟨PyData.keyHash P "__module__", (.str "__module__" 203), (.str "tenwhole.signals" 194)⟩, ⟨PyData.keyHash P "__firstlineno__", (.str "__firstlineno__" 207), (.int (5) 206)⟩, ⟨PyData.keyHash P "__static_attributes__", (.str "__static_attributes__" 208), (.ref 29)⟩, ⟨PyData.keyHash P "__weakref__", (.str "__weakref__" 210), (.ref 32)⟩, ⟨PyData.keyHash P "__doc__", (.str "__doc__" 211), .none⟩] : List DictEntry))⟩ 3), ⟨[]⟩⟩
def o_14_31 (P : Params) : Obj := ⟨(.type "type"), none, (.cls ⟨"TenError", [(.type "ValueError")], [(.ref 31), (.type "ValueError"), (.type "Exception"), (.type "BaseException"), (.type "object")], 30, "TenError", true, [], (([(.ref 51), (.ref 70), (.ref 82), (.ref 94)] : List Value)), false, none, false⟩), ⟨[(some (.ref 22)), none, (some (.str "TenError" 196)), (some (.str "TenError" 204)), (some (.builtin "ValueError.__new__")), (some (.bool true))]⟩⟩
def o_14_32 (P : Params) : Obj := ⟨(.type "getset_descriptor"), none, (.fields ⟨(([(.str "__weakref__" 209), (.ref 31), (.builtin "ExceptionGroup.__weakref__"), .none] : List Value))⟩), ⟨[]⟩⟩
def o_14_33 (P : Params) : Obj := ⟨(.type "super"), none, (.fields ⟨(([(.ref 31), (.ref 31), (.ref 31)] : List Value))⟩), ⟨[]⟩⟩
def o_14_34 (P : Params) : Obj := ⟨(.type "builtin_function_or_method"), none, (.fields ⟨(([(.builtin "object.__init_subclass__"), (.ref 31)] : List Value))⟩), ⟨[]⟩⟩
def o_14_35 (P : Params) : Obj := ⟨(.type "tuple"), none, (.seq ⟨(([(.ref 31)] : List Value))⟩ 0), ⟨[]⟩⟩
def o_14_36 (P : Params) : Obj := ⟨(.type "builtin_function_or_method"), none, (.fields ⟨(([(.builtin "type.__prepare__"), (.type "type")] : List Value))⟩), ⟨[]⟩⟩
def o_14_37 (P : Params) : Obj := ⟨(.type "dict"), none, (.dict ⟨(([⟨PyData.keyHash P "__module__", (.str "__module__" 221), (.str "tenwhole.signals" 194)⟩, ⟨PyData.keyHash P "__qualname__", (.str "__qualname__" 223), (.str "NoOperand" 222)⟩, ⟨PyData.keyHash P "__firstlineno__", (.str "__firstlineno__" 225), (.int (7) 224)⟩, ⟨PyData.keyHash P "__init__", (.str "__init__" 233), (.ref 48)⟩, ⟨PyData.keyHash P "__static_attributes__", (.str "__static_attributes__" 235), (.ref 49)⟩] : List DictEntry))⟩ 5), ⟨[]⟩⟩
def o_14_38 (P : Params) : Obj := ⟨(.type "tuple"), none, (.seq ⟨([] : List Value)⟩ 0), ⟨[]⟩⟩
def o_14_39 (P : Params) : Obj := ⟨.none, none, (.fields ⟨(([(.int (9) 0), (.int (4) 0), (.ref 47)] : List Value))⟩), ⟨[]⟩⟩
def o_14_40 (P : Params) : Obj := ⟨(.type "code"), none, (.fields ⟨(([(.str "NoOperand" 216), (.str "NoOperand" 217), (.str "/claim/cut.py" 218), (.int (7) 0), (.int (0) 0), (.int (0) 0), (.int (0) 0), (.int (0) 0), (.ref 38), (.bool false), (.int (181) 0), (.ref 39)] : List Value) ++ ([.none, .none, .none, .none, (.int (219) 0), (.int (7) 0), (.str "/claim/cut.py" 220)] : List Value))⟩), ⟨[]⟩⟩
def o_14_41 (P : Params) : Obj := ⟨(.type "frame"), none, .plain, ⟨[(some (.ref 40)), (some (.ref 3)), (some (.ref 37)), none, (some (.str "tenwhole.signals" 194)), none, (some (.ref 0))]⟩⟩
def o_14_42 (P : Params) : Obj := ⟨(.type "tuple"), none, (.seq ⟨([] : List Value)⟩ 0), ⟨[]⟩⟩
def o_14_43 (P : Params) : Obj := ⟨.none, none, (.fields ⟨([] : List Value)⟩), ⟨[]⟩⟩
def o_14_44 (P : Params) : Obj := ⟨(.type "tuple"), none, (.seq ⟨(([(.str "self" 229), (.str "operand" 230)] : List Value))⟩ 0), ⟨[]⟩⟩
def o_14_45 (P : Params) : Obj := ⟨(.type "tuple"), none, (.seq ⟨([] : List Value)⟩ 0), ⟨[]⟩⟩
def o_14_46 (P : Params) : Obj := ⟨.none, none, (.func ⟨"__init__", "NoOperand.__init__", defArgs (inClass (top 3) 0), .stmts (defBody (inClass (top 3) 0)), defScope (inClass (top 3) 0), 0, [], .none, .none, .none, .none, none, .none, .none, 0⟩), ⟨[]⟩⟩
def o_14_47 (P : Params) : Obj := ⟨(.type "code"), none, (.fields ⟨(([(.str "__init__" 226), (.str "NoOperand.__init__" 227), (.str "/claim/cut.py" 228), (.int (9) 0), (.int (2) 0), (.int (0) 0), (.int (0) 0), (.int (3) 0), (.ref 42), (.bool true), (.int (181) 0), (.ref 43)] : List Value) ++ ([.none, (.ref 44), (.ref 45), (.ref 46), (.int (231) 0), (.int (9) 0), (.str "/claim/cut.py" 232)] : List Value))⟩), ⟨[]⟩⟩
def o_14_48 (P : Params) : Obj := ⟨(.type "function"), none, (.func ⟨"__init__", "NoOperand.__init__", defArgs (inClass (top 3) 0), .stmts (defBody (inClass (top 3) 0)), defScope (inClass (top 3) 0), 3, [], .none, .none, .none, (.str "tenwhole.signals" 194), none, (.ref 47), .none, 0⟩), ⟨[]⟩⟩
def o_14_49 (P : Params) : Obj := ⟨(.type "tuple"), none, (.seq ⟨(([(.str "operand" 234)] : List Value))⟩ 0), ⟨[]⟩⟩
def o_14_50 (P : Params) : Obj := ⟨(.type "dict"), none, (.dict ⟨(([⟨PyData.keyHash P "__module__", (.str "__module__" 221), (.str "tenwhole.signals" 194)⟩, ⟨PyData.keyHash P "__firstlineno__", (.str "__firstlineno__" 225), (.int (7) 224)⟩, ⟨PyData.keyHash P "__init__", (.str "__init__" 233), (.ref 48)⟩, ⟨PyData.keyHash P "__static_attributes__", (.str "__static_attributes__" 235), (.ref 49)⟩, ⟨PyData.keyHash P "__doc__", (.str "__doc__" 236), .none⟩] : List DictEntry))⟩ 2), ⟨[]⟩⟩
def o_14_51 (P : Params) : Obj := ⟨(.type "type"), none, (.cls ⟨"NoOperand", [(.ref 31)], [(.ref 51), (.ref 31), (.type "ValueError"), (.type "Exception"), (.type "BaseException"), (.type "object")], 50, "NoOperand", true, [], ([] : List Value), false, none, false⟩), ⟨[(some (.ref 35)), none, (some (.str "NoOperand" 214)), (some (.str "NoOperand" 222)), (some (.builtin "ValueError.__new__")), (some (.bool true))]⟩⟩
def o_14_52 (P : Params) : Obj := ⟨(.type "super"), none, (.fields ⟨(([(.ref 51), (.ref 51), (.ref 51)] : List Value))⟩), ⟨[]⟩⟩
def o_14_53 (P : Params) : Obj := ⟨(.type "builtin_function_or_method"), none, (.fields ⟨(([(.builtin "object.__init_subclass__"), (.ref 51)] : List Value))⟩), ⟨[]⟩⟩
def o_14_54 (P : Params) : Obj := ⟨(.type "tuple"), none, (.seq ⟨(([(.ref 31)] : List Value))⟩ 0), ⟨[]⟩⟩
def o_14_55 (P : Params) : Obj := ⟨(.type "builtin_function_or_method"), none, (.fields ⟨(([(.builtin "type.__prepare__"), (.type "type")] : List Value))⟩), ⟨[]⟩⟩
def o_14_56 (P : Params) : Obj := ⟨(.type "dict"), none, (.dict ⟨(([⟨PyData.keyHash P "__module__", (.str "__module__" 246), (.str "tenwhole.signals" 194)⟩, ⟨PyData.keyHash P "__qualname__", (.str "__qualname__" 248), (.str "NoDecimal" 247)⟩, ⟨PyData.keyHash P "__firstlineno__", (.str "__firstlineno__" 250), (.int (12) 249)⟩, ⟨PyData.keyHash P "__init__", (.str "__init__" 258), (.ref 67)⟩, ⟨PyData.keyHash P "__static_attributes__", (.str "__static_attributes__" 260), (.ref 68)⟩] : List DictEntry))⟩ 5), ⟨[]⟩⟩
def o_14_57 (P : Params) : Obj := ⟨(.type "tuple"), none, (.seq ⟨([] : List Value)⟩ 0), ⟨[]⟩⟩
def o_14_58 (P : Params) : Obj := ⟨.none, none, (.fields ⟨(([(.int (14) 0), (.int (4) 0), (.ref 66)] : List Value))⟩), ⟨[]⟩⟩
def o_14_59 (P : Params) : Obj := ⟨(.type "code"), none, (.fields ⟨(([(.str "NoDecimal" 241), (.str "NoDecimal" 242), (.str "/claim/cut.py" 243), (.int (12) 0), (.int (0) 0), (.int (0) 0), (.int (0) 0), (.int (0) 0), (.ref 57), (.bool false), (.int (181) 0), (.ref 58)] : List Value) ++ ([.none, .none, .none, .none, (.int (244) 0), (.int (12) 0), (.str "/claim/cut.py" 245)] : List Value))⟩), ⟨[]⟩⟩
def o_14_60 (P : Params) : Obj := ⟨(.type "frame"), none, .plain, ⟨[(some (.ref 59)), (some (.ref 3)), (some (.ref 56)), none, (some (.str "tenwhole.signals" 194)), none, (some (.ref 0))]⟩⟩
def o_14_61 (P : Params) : Obj := ⟨(.type "tuple"), none, (.seq ⟨([] : List Value)⟩ 0), ⟨[]⟩⟩
def o_14_62 (P : Params) : Obj := ⟨.none, none, (.fields ⟨([] : List Value)⟩), ⟨[]⟩⟩
def o_14_63 (P : Params) : Obj := ⟨(.type "tuple"), none, (.seq ⟨(([(.str "self" 254), (.str "part" 255)] : List Value))⟩ 0), ⟨[]⟩⟩
def o_14_64 (P : Params) : Obj := ⟨(.type "tuple"), none, (.seq ⟨([] : List Value)⟩ 0), ⟨[]⟩⟩
def o_14_65 (P : Params) : Obj := ⟨.none, none, (.func ⟨"__init__", "NoDecimal.__init__", defArgs (inClass (top 4) 0), .stmts (defBody (inClass (top 4) 0)), defScope (inClass (top 4) 0), 0, [], .none, .none, .none, .none, none, .none, .none, 0⟩), ⟨[]⟩⟩
def o_14_66 (P : Params) : Obj := ⟨(.type "code"), none, (.fields ⟨(([(.str "__init__" 251), (.str "NoDecimal.__init__" 252), (.str "/claim/cut.py" 253), (.int (14) 0), (.int (2) 0), (.int (0) 0), (.int (0) 0), (.int (3) 0), (.ref 61), (.bool true), (.int (181) 0), (.ref 62)] : List Value) ++ ([.none, (.ref 63), (.ref 64), (.ref 65), (.int (256) 0), (.int (14) 0), (.str "/claim/cut.py" 257)] : List Value))⟩), ⟨[]⟩⟩
def o_14_67 (P : Params) : Obj := ⟨(.type "function"), none, (.func ⟨"__init__", "NoDecimal.__init__", defArgs (inClass (top 4) 0), .stmts (defBody (inClass (top 4) 0)), defScope (inClass (top 4) 0), 3, [], .none, .none, .none, (.str "tenwhole.signals" 194), none, (.ref 66), .none, 0⟩), ⟨[]⟩⟩
def o_14_68 (P : Params) : Obj := ⟨(.type "tuple"), none, (.seq ⟨(([(.str "part" 259)] : List Value))⟩ 0), ⟨[]⟩⟩
def o_14_69 (P : Params) : Obj := ⟨(.type "dict"), none, (.dict ⟨(([⟨PyData.keyHash P "__module__", (.str "__module__" 246), (.str "tenwhole.signals" 194)⟩, ⟨PyData.keyHash P "__firstlineno__", (.str "__firstlineno__" 250), (.int (12) 249)⟩, ⟨PyData.keyHash P "__init__", (.str "__init__" 258), (.ref 67)⟩, ⟨PyData.keyHash P "__static_attributes__", (.str "__static_attributes__" 260), (.ref 68)⟩, ⟨PyData.keyHash P "__doc__", (.str "__doc__" 261), .none⟩] : List DictEntry))⟩ 2), ⟨[]⟩⟩
def o_14_70 (P : Params) : Obj := ⟨(.type "type"), none, (.cls ⟨"NoDecimal", [(.ref 31)], [(.ref 70), (.ref 31), (.type "ValueError"), (.type "Exception"), (.type "BaseException"), (.type "object")], 69, "NoDecimal", true, [], ([] : List Value), false, none, false⟩), ⟨[(some (.ref 54)), none, (some (.str "NoDecimal" 239)), (some (.str "NoDecimal" 247)), (some (.builtin "ValueError.__new__")), (some (.bool true))]⟩⟩
def o_14_71 (P : Params) : Obj := ⟨(.type "super"), none, (.fields ⟨(([(.ref 70), (.ref 70), (.ref 70)] : List Value))⟩), ⟨[]⟩⟩
def o_14_72 (P : Params) : Obj := ⟨(.type "builtin_function_or_method"), none, (.fields ⟨(([(.builtin "object.__init_subclass__"), (.ref 70)] : List Value))⟩), ⟨[]⟩⟩
def o_14_73 (P : Params) : Obj := ⟨(.type "tuple"), none, (.seq ⟨(([(.ref 31)] : List Value))⟩ 0), ⟨[]⟩⟩
def o_14_74 (P : Params) : Obj := ⟨(.type "builtin_function_or_method"), none, (.fields ⟨(([(.builtin "type.__prepare__"), (.type "type")] : List Value))⟩), ⟨[]⟩⟩
def o_14_75 (P : Params) : Obj := ⟨(.type "dict"), none, (.dict ⟨(([⟨PyData.keyHash P "__module__", (.str "__module__" 271), (.str "tenwhole.signals" 194)⟩, ⟨PyData.keyHash P "__qualname__", (.str "__qualname__" 273), (.str "NoValue" 272)⟩, ⟨PyData.keyHash P "__firstlineno__", (.str "__firstlineno__" 275), (.int (17) 274)⟩, ⟨PyData.keyHash P "__static_attributes__", (.str "__static_attributes__" 276), (.ref 80)⟩] : List DictEntry))⟩ 4), ⟨[]⟩⟩
def o_14_76 (P : Params) : Obj := ⟨(.type "tuple"), none, (.seq ⟨([] : List Value)⟩ 0), ⟨[]⟩⟩
def o_14_77 (P : Params) : Obj := ⟨.none, none, (.fields ⟨([] : List Value)⟩), ⟨[]⟩⟩
def o_14_78 (P : Params) : Obj := ⟨(.type "code"), none, (.fields ⟨(([(.str "NoValue" 266), (.str "NoValue" 267), (.str "/claim/cut.py" 268), (.int (17) 0), (.int (0) 0), (.int (0) 0), (.int (0) 0), (.int (0) 0), (.ref 76), (.bool false), (.int (181) 0), (.ref 77)] : List Value) ++ ([.none, .none, .none, .none, (.int (269) 0), (.int (17) 0), (.str "/claim/cut.py" 270)] : List Value))⟩), ⟨[]⟩⟩
def o_14_79 (P : Params) : Obj := ⟨(.type "frame"), none, .plain, ⟨[(some (.ref 78)), (some (.ref 3)), (some (.ref 75)), none, (some (.str "tenwhole.signals" 194)), none, (some (.ref 0))]⟩⟩
def o_14_80 (P : Params) : Obj := ⟨(.type "tuple"), none, (.seq ⟨([] : List Value)⟩ 0), ⟨[]⟩⟩
def o_14_81 (P : Params) : Obj := ⟨(.type "dict"), none, (.dict ⟨(([⟨PyData.keyHash P "__module__", (.str "__module__" 271), (.str "tenwhole.signals" 194)⟩, ⟨PyData.keyHash P "__firstlineno__", (.str "__firstlineno__" 275), (.int (17) 274)⟩, ⟨PyData.keyHash P "__static_attributes__", (.str "__static_attributes__" 276), (.ref 80)⟩, ⟨PyData.keyHash P "__doc__", (.str "__doc__" 277), .none⟩] : List DictEntry))⟩ 2), ⟨[]⟩⟩
def o_14_82 (P : Params) : Obj := ⟨(.type "type"), none, (.cls ⟨"NoValue", [(.ref 31)], [(.ref 82), (.ref 31), (.type "ValueError"), (.type "Exception"), (.type "BaseException"), (.type "object")], 81, "NoValue", true, [], ([] : List Value), false, none, false⟩), ⟨[(some (.ref 73)), none, (some (.str "NoValue" 264)), (some (.str "NoValue" 272)), (some (.builtin "ValueError.__new__")), (some (.bool true))]⟩⟩
def o_14_83 (P : Params) : Obj := ⟨(.type "super"), none, (.fields ⟨(([(.ref 82), (.ref 82), (.ref 82)] : List Value))⟩), ⟨[]⟩⟩
def o_14_84 (P : Params) : Obj := ⟨(.type "builtin_function_or_method"), none, (.fields ⟨(([(.builtin "object.__init_subclass__"), (.ref 82)] : List Value))⟩), ⟨[]⟩⟩
def o_14_85 (P : Params) : Obj := ⟨(.type "tuple"), none, (.seq ⟨(([(.ref 31)] : List Value))⟩ 0), ⟨[]⟩⟩
def o_14_86 (P : Params) : Obj := ⟨(.type "builtin_function_or_method"), none, (.fields ⟨(([(.builtin "type.__prepare__"), (.type "type")] : List Value))⟩), ⟨[]⟩⟩
def o_14_87 (P : Params) : Obj := ⟨(.type "dict"), none, (.dict ⟨(([⟨PyData.keyHash P "__module__", (.str "__module__" 287), (.str "tenwhole.signals" 194)⟩, ⟨PyData.keyHash P "__qualname__", (.str "__qualname__" 289), (.str "TooGreat" 288)⟩, ⟨PyData.keyHash P "__firstlineno__", (.str "__firstlineno__" 291), (.int (19) 290)⟩, ⟨PyData.keyHash P "__static_attributes__", (.str "__static_attributes__" 292), (.ref 92)⟩] : List DictEntry))⟩ 4), ⟨[]⟩⟩
def o_14_88 (P : Params) : Obj := ⟨(.type "tuple"), none, (.seq ⟨([] : List Value)⟩ 0), ⟨[]⟩⟩
def o_14_89 (P : Params) : Obj := ⟨.none, none, (.fields ⟨([] : List Value)⟩), ⟨[]⟩⟩
def o_14_90 (P : Params) : Obj := ⟨(.type "code"), none, (.fields ⟨(([(.str "TooGreat" 282), (.str "TooGreat" 283), (.str "/claim/cut.py" 284), (.int (19) 0), (.int (0) 0), (.int (0) 0), (.int (0) 0), (.int (0) 0), (.ref 88), (.bool false), (.int (181) 0), (.ref 89)] : List Value) ++ ([.none, .none, .none, .none, (.int (285) 0), (.int (19) 0), (.str "/claim/cut.py" 286)] : List Value))⟩), ⟨[]⟩⟩
def o_14_91 (P : Params) : Obj := ⟨(.type "frame"), none, .plain, ⟨[(some (.ref 90)), (some (.ref 3)), (some (.ref 87)), none, (some (.str "tenwhole.signals" 194)), none, (some (.ref 0))]⟩⟩
def o_14_92 (P : Params) : Obj := ⟨(.type "tuple"), none, (.seq ⟨([] : List Value)⟩ 0), ⟨[]⟩⟩
def o_14_93 (P : Params) : Obj := ⟨(.type "dict"), none, (.dict ⟨(([⟨PyData.keyHash P "__module__", (.str "__module__" 287), (.str "tenwhole.signals" 194)⟩, ⟨PyData.keyHash P "__firstlineno__", (.str "__firstlineno__" 291), (.int (19) 290)⟩, ⟨PyData.keyHash P "__static_attributes__", (.str "__static_attributes__" 292), (.ref 92)⟩, ⟨PyData.keyHash P "__doc__", (.str "__doc__" 293), .none⟩] : List DictEntry))⟩ 2), ⟨[]⟩⟩
def o_14_94 (P : Params) : Obj := ⟨(.type "type"), none, (.cls ⟨"TooGreat", [(.ref 31)], [(.ref 94), (.ref 31), (.type "ValueError"), (.type "Exception"), (.type "BaseException"), (.type "object")], 93, "TooGreat", true, [], ([] : List Value), false, none, false⟩), ⟨[(some (.ref 85)), none, (some (.str "TooGreat" 280)), (some (.str "TooGreat" 288)), (some (.builtin "ValueError.__new__")), (some (.bool true))]⟩⟩
def o_14_95 (P : Params) : Obj := ⟨(.type "super"), none, (.fields ⟨(([(.ref 94), (.ref 94), (.ref 94)] : List Value))⟩), ⟨[]⟩⟩
def o_14_96 (P : Params) : Obj := ⟨(.type "builtin_function_or_method"), none, (.fields ⟨(([(.builtin "object.__init_subclass__"), (.ref 94)] : List Value))⟩), ⟨[]⟩⟩
def o_14_97 (P : Params) : Obj := ⟨(.type "tuple"), none, (.seq ⟨([] : List Value)⟩ 0), ⟨[]⟩⟩
def o_14_98 (P : Params) : Obj := ⟨(.type "builtin_function_or_method"), none, (.fields ⟨(([(.builtin "type.__prepare__"), (.type "type")] : List Value))⟩), ⟨[]⟩⟩
def o_14_99 (P : Params) : Obj := ⟨(.type "dict"), none, (.dict ⟨(([⟨PyData.keyHash P "__module__", (.str "__module__" 317), (.str "tenwhole.decimals" 296)⟩, ⟨PyData.keyHash P "__qualname__", (.str "__qualname__" 319), (.str "Decimal" 318)⟩, ⟨PyData.keyHash P "__firstlineno__", (.str "__firstlineno__" 321), (.int (27) 320)⟩, ⟨PyData.keyHash P "__init__", (.str "__init__" 331), (.ref 110)⟩, ⟨PyData.keyHash P "adjusted", (.str "adjusted" 338), (.ref 117)⟩, ⟨PyData.keyHash P "as_tuple", (.str "as_tuple" 345), (.ref 124)⟩, ⟨PyData.keyHash P "__eq__", (.str "__eq__" 353), (.ref 131)⟩, ⟨PyData.keyHash P "__static_attributes__", (.str "__static_attributes__" 357), (.ref 132)⟩] : List DictEntry))⟩ 8), ⟨[]⟩⟩
def o_14_100 (P : Params) : Obj := ⟨(.type "tuple"), none, (.seq ⟨([] : List Value)⟩ 0), ⟨[]⟩⟩
def o_14_101 (P : Params) : Obj := ⟨.none, none, (.fields ⟨(([(.int (29) 0), (.int (4) 0), (.ref 109), (.int (42) 0), (.int (4) 0), (.ref 116), (.int (45) 0), (.int (4) 0), (.ref 123), (.int (48) 0), (.int (4) 0), (.ref 130)] : List Value))⟩), ⟨[]⟩⟩
def o_14_102 (P : Params) : Obj := ⟨(.type "code"), none, (.fields ⟨(([(.str "Decimal" 312), (.str "Decimal" 313), (.str "/claim/cut.py" 314), (.int (27) 0), (.int (0) 0), (.int (0) 0), (.int (0) 0), (.int (0) 0), (.ref 100), (.bool false), (.int (181) 0), (.ref 101)] : List Value) ++ ([.none, .none, .none, .none, (.int (315) 0), (.int (27) 0), (.str "/claim/cut.py" 316)] : List Value))⟩), ⟨[]⟩⟩
def o_14_103 (P : Params) : Obj := ⟨(.type "frame"), none, .plain, ⟨[(some (.ref 102)), (some (.ref 3)), (some (.ref 99)), none, (some (.str "tenwhole.decimals" 296)), none, (some (.ref 0))]⟩⟩
def o_14_104 (P : Params) : Obj := ⟨(.type "tuple"), none, (.seq ⟨([] : List Value)⟩ 0), ⟨[]⟩⟩
def o_14_105 (P : Params) : Obj := ⟨.none, none, (.fields ⟨([] : List Value)⟩), ⟨[]⟩⟩
def o_14_106 (P : Params) : Obj := ⟨(.type "tuple"), none, (.seq ⟨(([(.str "self" 325), (.str "sign" 326), (.str "coefficient" 327), (.str "exponent" 328)] : List Value))⟩ 0), ⟨[]⟩⟩
def o_14_107 (P : Params) : Obj := ⟨(.type "tuple"), none, (.seq ⟨([] : List Value)⟩ 0), ⟨[]⟩⟩
def o_14_108 (P : Params) : Obj := ⟨.none, none, (.func ⟨"__init__", "Decimal.__init__", defArgs (inClass (top 13) 0), .stmts (defBody (inClass (top 13) 0)), defScope (inClass (top 13) 0), 0, [], .none, .none, .none, .none, none, .none, .none, 0⟩), ⟨[]⟩⟩
def o_14_109 (P : Params) : Obj := ⟨(.type "code"), none, (.fields ⟨(([(.str "__init__" 322), (.str "Decimal.__init__" 323), (.str "/claim/cut.py" 324), (.int (29) 0), (.int (4) 0), (.int (0) 0), (.int (0) 0), (.int (3) 0), (.ref 104), (.bool true), (.int (181) 0), (.ref 105)] : List Value) ++ ([.none, (.ref 106), (.ref 107), (.ref 108), (.int (329) 0), (.int (29) 0), (.str "/claim/cut.py" 330)] : List Value))⟩), ⟨[]⟩⟩
def o_14_110 (P : Params) : Obj := ⟨(.type "function"), none, (.func ⟨"__init__", "Decimal.__init__", defArgs (inClass (top 13) 0), .stmts (defBody (inClass (top 13) 0)), defScope (inClass (top 13) 0), 3, [], .none, .none, .none, (.str "tenwhole.decimals" 296), none, (.ref 109), .none, 0⟩), ⟨[]⟩⟩
def o_14_111 (P : Params) : Obj := ⟨(.type "tuple"), none, (.seq ⟨([] : List Value)⟩ 0), ⟨[]⟩⟩
def o_14_112 (P : Params) : Obj := ⟨.none, none, (.fields ⟨([] : List Value)⟩), ⟨[]⟩⟩
def o_14_113 (P : Params) : Obj := ⟨(.type "tuple"), none, (.seq ⟨(([(.str "self" 335)] : List Value))⟩ 0), ⟨[]⟩⟩
def o_14_114 (P : Params) : Obj := ⟨(.type "tuple"), none, (.seq ⟨([] : List Value)⟩ 0), ⟨[]⟩⟩
def o_14_115 (P : Params) : Obj := ⟨.none, none, (.func ⟨"adjusted", "Decimal.adjusted", defArgs (inClass (top 13) 1), .stmts (defBody (inClass (top 13) 1)), defScope (inClass (top 13) 1), 0, [], .none, .none, .none, .none, none, .none, .none, 0⟩), ⟨[]⟩⟩
def o_14_116 (P : Params) : Obj := ⟨(.type "code"), none, (.fields ⟨(([(.str "adjusted" 332), (.str "Decimal.adjusted" 333), (.str "/claim/cut.py" 334), (.int (42) 0), (.int (1) 0), (.int (0) 0), (.int (0) 0), (.int (3) 0), (.ref 111), (.bool true), (.int (181) 0), (.ref 112)] : List Value) ++ ([.none, (.ref 113), (.ref 114), (.ref 115), (.int (336) 0), (.int (42) 0), (.str "/claim/cut.py" 337)] : List Value))⟩), ⟨[]⟩⟩
def o_14_117 (P : Params) : Obj := ⟨(.type "function"), none, (.func ⟨"adjusted", "Decimal.adjusted", defArgs (inClass (top 13) 1), .stmts (defBody (inClass (top 13) 1)), defScope (inClass (top 13) 1), 3, [], .none, .none, .none, (.str "tenwhole.decimals" 296), none, (.ref 116), .none, 0⟩), ⟨[]⟩⟩
def o_14_118 (P : Params) : Obj := ⟨(.type "tuple"), none, (.seq ⟨([] : List Value)⟩ 0), ⟨[]⟩⟩
def o_14_119 (P : Params) : Obj := ⟨.none, none, (.fields ⟨([] : List Value)⟩), ⟨[]⟩⟩
def o_14_120 (P : Params) : Obj := ⟨(.type "tuple"), none, (.seq ⟨(([(.str "self" 342)] : List Value))⟩ 0), ⟨[]⟩⟩
def o_14_121 (P : Params) : Obj := ⟨(.type "tuple"), none, (.seq ⟨([] : List Value)⟩ 0), ⟨[]⟩⟩
def o_14_122 (P : Params) : Obj := ⟨.none, none, (.func ⟨"as_tuple", "Decimal.as_tuple", defArgs (inClass (top 13) 2), .stmts (defBody (inClass (top 13) 2)), defScope (inClass (top 13) 2), 0, [], .none, .none, .none, .none, none, .none, .none, 0⟩), ⟨[]⟩⟩
def o_14_123 (P : Params) : Obj := ⟨(.type "code"), none, (.fields ⟨(([(.str "as_tuple" 339), (.str "Decimal.as_tuple" 340), (.str "/claim/cut.py" 341), (.int (45) 0), (.int (1) 0), (.int (0) 0), (.int (0) 0), (.int (3) 0), (.ref 118), (.bool true), (.int (181) 0), (.ref 119)] : List Value) ++ ([.none, (.ref 120), (.ref 121), (.ref 122), (.int (343) 0), (.int (45) 0), (.str "/claim/cut.py" 344)] : List Value))⟩), ⟨[]⟩⟩
def o_14_124 (P : Params) : Obj := ⟨(.type "function"), none, (.func ⟨"as_tuple", "Decimal.as_tuple", defArgs (inClass (top 13) 2), .stmts (defBody (inClass (top 13) 2)), defScope (inClass (top 13) 2), 3, [], .none, .none, .none, (.str "tenwhole.decimals" 296), none, (.ref 123), .none, 0⟩), ⟨[]⟩⟩
def o_14_125 (P : Params) : Obj := ⟨(.type "tuple"), none, (.seq ⟨([] : List Value)⟩ 0), ⟨[]⟩⟩
def o_14_126 (P : Params) : Obj := ⟨.none, none, (.fields ⟨([] : List Value)⟩), ⟨[]⟩⟩
def o_14_127 (P : Params) : Obj := ⟨(.type "tuple"), none, (.seq ⟨(([(.str "self" 349), (.str "other" 350)] : List Value))⟩ 0), ⟨[]⟩⟩
def o_14_128 (P : Params) : Obj := ⟨(.type "tuple"), none, (.seq ⟨([] : List Value)⟩ 0), ⟨[]⟩⟩
def o_14_129 (P : Params) : Obj := ⟨.none, none, (.func ⟨"__eq__", "Decimal.__eq__", defArgs (inClass (top 13) 3), .stmts (defBody (inClass (top 13) 3)), defScope (inClass (top 13) 3), 0, [], .none, .none, .none, .none, none, .none, .none, 0⟩), ⟨[]⟩⟩
def o_14_130 (P : Params) : Obj := ⟨(.type "code"), none, (.fields ⟨(([(.str "__eq__" 346), (.str "Decimal.__eq__" 347), (.str "/claim/cut.py" 348), (.int (48) 0), (.int (2) 0), (.int (0) 0), (.int (0) 0), (.int (3) 0), (.ref 125), (.bool true), (.int (181) 0), (.ref 126)] : List Value) ++ ([.none, (.ref 127), (.ref 128), (.ref 129), (.int (351) 0), (.int (48) 0), (.str "/claim/cut.py" 352)] : List Value))⟩), ⟨[]⟩⟩
def o_14_131 (P : Params) : Obj := ⟨(.type "function"), none, (.func ⟨"__eq__", "Decimal.__eq__", defArgs (inClass (top 13) 3), .stmts (defBody (inClass (top 13) 3)), defScope (inClass (top 13) 3), 3, [], .none, .none, .none, (.str "tenwhole.decimals" 296), none, (.ref 130), .none, 0⟩), ⟨[]⟩⟩
def o_14_132 (P : Params) : Obj := ⟨(.type "tuple"), none, (.seq ⟨(([(.str "coefficient" 354), (.str "exponent" 355), (.str "sign" 356)] : List Value))⟩ 0), ⟨[]⟩⟩
def o_14_133 (P : Params) : Obj := ⟨(.type "dict"), none, (.dict ⟨(([⟨PyData.keyHash P "__module__", (.str "__module__" 317), (.str "tenwhole.decimals" 296)⟩, ⟨PyData.keyHash P "__firstlineno__", (.str "__firstlineno__" 321), (.int (27) 320)⟩, ⟨PyData.keyHash P "__init__", (.str "__init__" 331), (.ref 110)⟩, ⟨PyData.keyHash P "adjusted", (.str "adjusted" 338), (.ref 117)⟩, ⟨PyData.keyHash P "as_tuple", (.str "as_tuple" 345), (.ref 124)⟩, ⟨PyData.keyHash P "__eq__", (.str "__eq__" 353), (.ref 131)⟩, ⟨PyData.keyHash P "__static_attributes__", (.str "__static_attributes__" 357), (.ref 132)⟩, ⟨PyData.keyHash P "__dict__", (.str "__dict__" 359), (.ref 135)⟩, ⟨PyData.keyHash P "__weakref__", (.str "__weakref__" 361), (.ref 136)⟩, ⟨PyData.keyHash P "__doc__", (.str "__doc__" 362), .none⟩, ⟨PyData.keyHash P "__hash__", (.str "__hash__" 363), .none⟩] : List DictEntry))⟩ 5), ⟨[]⟩⟩
def o_14_134 (P : Params) : Obj := ⟨(.type "type"), none, (.cls ⟨"Decimal", [(.type "object")], [(.ref 134), (.type "object")], 133, "Decimal", true, [], ([] : List Value), false, none, false⟩), ⟨[none, none, (some (.str "Decimal" 310)), (some (.str "Decimal" 318)), (some (.builtin "object.__new__")), (some (.bool true))]⟩⟩
def o_14_135 (P : Params) : Obj := ⟨(.type "getset_descriptor"), none, (.fields ⟨(([(.str "__dict__" 358), (.ref 134), (.builtin "function.__dict__"), (.builtin "function.__dict__#set")] : List Value))⟩), ⟨[]⟩⟩
def o_14_136 (P : Params) : Obj := ⟨(.type "getset_descriptor"), none, (.fields ⟨(([(.str "__weakref__" 360), (.ref 134), (.builtin "ExceptionGroup.__weakref__"), .none] : List Value))⟩), ⟨[]⟩⟩
def o_14_137 (P : Params) : Obj := ⟨(.type "super"), none, (.fields ⟨(([(.ref 134), (.ref 134), (.ref 134)] : List Value))⟩), ⟨[]⟩⟩
def o_14_138 (P : Params) : Obj := ⟨(.type "builtin_function_or_method"), none, (.fields ⟨(([(.builtin "object.__init_subclass__"), (.ref 134)] : List Value))⟩), ⟨[]⟩⟩
def l_14 (P : Params) : List (Nat × Obj) := ([(3, o_14_3 P), (12, o_14_12 P), (15, o_14_15 P), (16, o_14_16 P), (17, o_14_17 P), (18, o_14_18 P), (19, o_14_19 P), (20, o_14_20 P), (21, o_14_21 P), (22, o_14_22 P), (23, o_14_23 P), (24, o_14_24 P), (25, o_14_25 P), (26, o_14_26 P), (27, o_14_27 P), (28, o_14_28 P), (29, o_14_29 P), (30, o_14_30 P), (31, o_14_31 P), (32, o_14_32 P), (33, o_14_33 P), (34, o_14_34 P), (35, o_14_35 P), (36, o_14_36 P), (37, o_14_37 P)] : List (Nat × Obj)) ++ ([(38, o_14_38 P), (39, o_14_39 P), (40, o_14_40 P), (41, o_14_41 P), (42, o_14_42 P), (43, o_14_43 P), (44, o_14_44 P), (45, o_14_45 P), (46, o_14_46 P), (47, o_14_47 P), (48, o_14_48 P), (49, o_14_49 P), (50, o_14_50 P), (51, o_14_51 P), (52, o_14_52 P), (53, o_14_53 P), (54, o_14_54 P), (55, o_14_55 P), (56, o_14_56 P), (57, o_14_57 P), (58, o_14_58 P), (59, o_14_59 P), (60, o_14_60 P), (61, o_14_61 P), (62, o_14_62 P)] : List (Nat × Obj)) ++ ([(63, o_14_63 P), (64, o_14_64 P), (65, o_14_65 P), (66, o_14_66 P), (67, o_14_67 P), (68, o_14_68 P), (69, o_14_69 P), (70, o_14_70 P), (71, o_14_71 P), (72, o_14_72 P), (73, o_14_73 P), (74, o_14_74 P), (75, o_14_75 P), (76, o_14_76 P), (77, o_14_77 P), (78, o_14_78 P), (79, o_14_79 P), (80, o_14_80 P), (81, o_14_81 P), (82, o_14_82 P), (83, o_14_83 P), (84, o_14_84 P), (85, o_14_85 P), (86, o_14_86 P), (87, o_14_87 P)] : List (Nat × Obj)) ++ ([(88, o_14_88 P), (89, o_14_89 P), (90, o_14_90 P), (91, o_14_91 P), (92, o_14_92 P), (93, o_14_93 P), (94, o_14_94 P), (95, o_14_95 P), (96, o_14_96 P), (97, o_14_97 P), (98, o_14_98 P), (99, o_14_99 P), (100, o_14_100 P), (101, o_14_101 P), (102, o_14_102 P), (103, o_14_103 P), (104, o_14_104 P), (105, o_14_105 P), (106, o_14_106 P), (107, o_14_107 P), (108, o_14_108 P), (109, o_14_109 P), (110, o_14_110 P), (111, o_14_111 P), (112, o_14_112 P)] : List (Nat × Obj)) ++ ([(113, o_14_113 P), (114, o_14_114 P), (115, o_14_115 P), (116, o_14_116 P), (117, o_14_117 P), (118, o_14_118 P), (119, o_14_119 P), (120, o_14_120 P), (121, o_14_121 P), (122, o_14_122 P), (123, o_14_123 P), (124, o_14_124 P), (125, o_14_125 P), (126, o_14_126 P), (127, o_14_127 P), (128, o_14_128 P), (129, o_14_129 P), (130, o_14_130 P), (131, o_14_131 P), (132, o_14_132 P), (133, o_14_133 P), (134, o_14_134 P), (135, o_14_135 P), (136, o_14_136 P), (137, o_14_137 P)] : List (Nat × Obj)) ++ ([(138, o_14_138 P)] : List (Nat × Obj))
def t_14 (P : Params) : BT := (insAll (l_14 P) (t_block P)).getD .nil
def S_14 (w : World) (os : OsState) : SharedT := ⟨t_14 w.params, 139, {}, #[], ⟨0, 0, 0, 0⟩, 366, os⟩
def o_55_3 (P : Params) : Obj := ⟨(.type "dict"), none, (.dict ⟨(([⟨PyData.keyHash P "__name__", (.str "__name__" 165), (.str "law_tenwhole_k92_whole_ratios_and_integers" 560)⟩, ⟨PyData.keyHash P "__doc__", (.str "__doc__" 166), .none⟩, ⟨PyData.keyHash P "__package__", (.str "__package__" 167), .none⟩, ⟨PyData.keyHash P "__loader__", (.str "__loader__" 168), (.builtin "__main__.__loader__#opaque")⟩, ⟨PyData.keyHash P "__spec__", (.str "__spec__" 169), .none⟩, ⟨PyData.keyHash P "__annotations__", (.str "__annotations__" 170), (.ref 6)⟩, ⟨PyData.keyHash P "__builtins__", (.str "__builtins__" 171), (.ref 4)⟩, ⟨PyData.keyHash P "__file__", (.str "__file__" 173), (.str "/claim/cut.py" 172)⟩, ⟨PyData.keyHash P "__cached__", (.str "__cached__" 174), .none⟩, ⟨PyData.keyHash P "_wall", (.str "_wall" 193), (.ref 21)⟩, ⟨PyData.keyHash P "TenError", (.str "TenError" 213), (.ref 31)⟩, ⟨PyData.keyHash P "NoOperand", (.str "NoOperand" 238), (.ref 51)⟩] : List DictEntry) ++ ([⟨PyData.keyHash P "NoDecimal", (.str "NoDecimal" 263), (.ref 70)⟩, ⟨PyData.keyHash P "NoValue", (.str "NoValue" 279), (.ref 82)⟩, ⟨PyData.keyHash P "TooGreat", (.str "TooGreat" 295), (.ref 94)⟩, ⟨PyData.keyHash P "STEP", (.str "STEP" 299), (.int (64) 298)⟩, ⟨PyData.keyHash P "GREAT", (.str "GREAT" 303), (.int (10000000000000000000000000000000000000000000000000000000000000000) 302)⟩, ⟨PyData.keyHash P "INFINITY", (.str "INFINITY" 305), (.str "F" 304)⟩, ⟨PyData.keyHash P "QUIET", (.str "QUIET" 307), (.str "n" 306)⟩, ⟨PyData.keyHash P "SIGNALING", (.str "SIGNALING" 309), (.str "N" 308)⟩, ⟨PyData.keyHash P "Decimal", (.str "Decimal" 365), (.ref 134)⟩, ⟨PyData.keyHash P "is_integer", (.str "is_integer" 372), (.ref 145)⟩, ⟨PyData.keyHash P "is_exponent", (.str "is_exponent" 379), (.ref 152)⟩, ⟨PyData.keyHash P "is_finite", (.str "is_finite" 386), (.ref 159)⟩] : List DictEntry) ++ ([⟨PyData.keyHash P "is_infinite", (.str "is_infinite" 393), (.ref 166)⟩, ⟨PyData.keyHash P "is_nan", (.str "is_nan" 400), (.ref 173)⟩, ⟨PyData.keyHash P "decimal_of", (.str "decimal_of" 407), (.ref 180)⟩, ⟨PyData.keyHash P "tens", (.str "tens" 416), (.ref 187)⟩, ⟨PyData.keyHash P "count_digits", (.str "count_digits" 424), (.ref 194)⟩, ⟨PyData.keyHash P "order_of", (.str "order_of" 434), (.ref 201)⟩, ⟨PyData.keyHash P "side_of", (.str "side_of" 442), (.ref 208)⟩, ⟨PyData.keyHash P "size_order", (.str "size_order" 453), (.ref 215)⟩, ⟨PyData.keyHash P "PRIME", (.str "PRIME" 461), (.int (2305843009213693951) 460)⟩, ⟨PyData.keyHash P "INFINITE_HASH", (.str "INFINITE_HASH" 463), (.int (314159) 462)⟩, ⟨PyData.keyHash P "power_modulo", (.str "power_modulo" 473), (.ref 222)⟩, ⟨PyData.keyHash P "number_hash", (.str "number_hash" 482), (.ref 229)⟩] : List DictEntry) ++ ([⟨PyData.keyHash P "finite_of", (.str "finite_of" 489), (.ref 236)⟩, ⟨PyData.keyHash P "common_factor", (.str "common_factor" 497), (.ref 243)⟩, ⟨PyData.keyHash P "ratio", (.str "ratio" 507), (.ref 250)⟩, ⟨PyData.keyHash P "cut_whole", (.str "cut_whole" 517), (.ref 257)⟩, ⟨PyData.keyHash P "with_sign_of", (.str "with_sign_of" 525), (.ref 264)⟩, ⟨PyData.keyHash P "truncated", (.str "truncated" 532), (.ref 271)⟩, ⟨PyData.keyHash P "floored", (.str "floored" 541), (.ref 278)⟩, ⟨PyData.keyHash P "ceiled", (.str "ceiled" 550), (.ref 285)⟩, ⟨PyData.keyHash P "nearest", (.str "nearest" 559), (.ref 292)⟩, ⟨PyData.keyHash P "_law_well", (.str "_law_well" 568), (.ref 299)⟩, ⟨PyData.keyHash P "_law_draw", (.str "_law_draw" 578), (.ref 306)⟩, ⟨PyData.keyHash P "_law_pick", (.str "_law_pick" 586), (.ref 313)⟩] : List DictEntry) ++ ([⟨PyData.keyHash P "_law_tens", (.str "_law_tens" 593), (.ref 320)⟩, ⟨PyData.keyHash P "_law_whole", (.str "_law_whole" 604), (.ref 327)⟩, ⟨PyData.keyHash P "_law_size", (.str "_law_size" 611), (.ref 334)⟩, ⟨PyData.keyHash P "_law_common", (.str "_law_common" 620), (.ref 341)⟩, ⟨PyData.keyHash P "_law_ratio_right", (.str "_law_ratio_right" 631), (.ref 348)⟩, ⟨PyData.keyHash P "_law_integers_right", (.str "_law_integers_right" 645), (.ref 355)⟩, ⟨PyData.keyHash P "_law_stays", (.str "_law_stays" 658), (.ref 362)⟩, ⟨PyData.keyHash P "_law_tiny_right", (.str "_law_tiny_right" 666), (.ref 369)⟩, ⟨PyData.keyHash P "_law_zero_right", (.str "_law_zero_right" 675), (.ref 376)⟩, ⟨PyData.keyHash P "_law_number", (.str "_law_number" 686), (.ref 383)⟩, ⟨PyData.keyHash P "_law_long_right", (.str "_law_long_right" 693), (.ref 390)⟩, ⟨PyData.keyHash P "law", (.str "law" 709), (.ref 397)⟩] : List DictEntry))⟩ 60), ⟨[]⟩⟩
def o_55_12 (P : Params) : Obj := ⟨.none, none, (.fields ⟨(([(.int (1) 0), (.int (0) 0), (.ref 20), (.int (5) 0), (.int (0) 0), (.ref 27), (.int (7) 0), (.int (0) 0), (.ref 40), (.int (12) 0), (.int (0) 0), (.ref 59)] : List Value) ++ ([(.int (17) 0), (.int (0) 0), (.ref 78), (.int (19) 0), (.int (0) 0), (.ref 90), (.int (27) 0), (.int (0) 0), (.ref 102), (.int (54) 0), (.int (0) 0), (.ref 144)] : List Value) ++ ([(.int (56) 0), (.int (0) 0), (.ref 151), (.int (58) 0), (.int (0) 0), (.ref 158), (.int (60) 0), (.int (0) 0), (.ref 165), (.int (62) 0), (.int (0) 0), (.ref 172)] : List Value) ++ ([(.int (64) 0), (.int (0) 0), (.ref 179), (.int (70) 0), (.int (0) 0), (.ref 186), (.int (77) 0), (.int (0) 0), (.ref 193), (.int (83) 0), (.int (0) 0), (.ref 200)] : List Value) ++ ([(.int (92) 0), (.int (0) 0), (.ref 207), (.int (95) 0), (.int (0) 0), (.ref 214), (.int (105) 0), (.int (0) 0), (.ref 221), (.int (112) 0), (.int (0) 0), (.ref 228)] : List Value) ++ ([(.int (122) 0), (.int (0) 0), (.ref 235), (.int (129) 0), (.int (0) 0), (.ref 242), (.int (133) 0), (.int (0) 0), (.ref 249), (.int (140) 0), (.int (0) 0), (.ref 256)] : List Value) ++ ([(.int (150) 0), (.int (0) 0), (.ref 263), (.int (152) 0), (.int (0) 0), (.ref 270), (.int (155) 0), (.int (0) 0), (.ref 277), (.int (159) 0), (.int (0) 0), (.ref 284)] : List Value) ++ ([(.int (163) 0), (.int (0) 0), (.ref 291), (.int (168) 0), (.int (0) 0), (.ref 298), (.int (170) 0), (.int (0) 0), (.ref 305), (.int (179) 0), (.int (0) 0), (.ref 312)] : List Value) ++ ([(.int (181) 0), (.int (0) 0), (.ref 319), (.int (183) 0), (.int (0) 0), (.ref 326), (.int (193) 0), (.int (0) 0), (.ref 333), (.int (195) 0), (.int (0) 0), (.ref 340)] : List Value) ++ ([(.int (202) 0), (.int (0) 0), (.ref 347), (.int (209) 0), (.int (0) 0), (.ref 354), (.int (217) 0), (.int (0) 0), (.ref 361), (.int (227) 0), (.int (0) 0), (.ref 368)] : List Value) ++ ([(.int (230) 0), (.int (0) 0), (.ref 375), (.int (233) 0), (.int (0) 0), (.ref 382), (.int (242) 0), (.int (0) 0), (.ref 389), (.int (245) 0), (.int (0) 0), (.ref 396)] : List Value))⟩), ⟨[]⟩⟩
def o_55_139 (P : Params) : Obj := ⟨(.type "tuple"), none, (.seq ⟨([] : List Value)⟩ 0), ⟨[]⟩⟩
def o_55_140 (P : Params) : Obj := ⟨.none, none, (.fields ⟨([] : List Value)⟩), ⟨[]⟩⟩
def o_55_141 (P : Params) : Obj := ⟨(.type "tuple"), none, (.seq ⟨(([(.str "thing" 369)] : List Value))⟩ 0), ⟨[]⟩⟩
def o_55_142 (P : Params) : Obj := ⟨(.type "tuple"), none, (.seq ⟨([] : List Value)⟩ 0), ⟨[]⟩⟩
def o_55_143 (P : Params) : Obj := ⟨.none, none, (.func ⟨"is_integer", "is_integer", defArgs (top 14), .stmts (defBody (top 14)), defScope (top 14), 0, [], .none, .none, .none, .none, none, .none, .none, 0⟩), ⟨[]⟩⟩
def o_55_144 (P : Params) : Obj := ⟨(.type "code"), none, (.fields ⟨(([(.str "is_integer" 366), (.str "is_integer" 367), (.str "/claim/cut.py" 368), (.int (54) 0), (.int (1) 0), (.int (0) 0), (.int (0) 0), (.int (3) 0), (.ref 139), (.bool true), (.int (181) 0), (.ref 140)] : List Value) ++ ([.none, (.ref 141), (.ref 142), (.ref 143), (.int (370) 0), (.int (54) 0), (.str "/claim/cut.py" 371)] : List Value))⟩), ⟨[]⟩⟩
def o_55_145 (P : Params) : Obj := ⟨(.type "function"), none, (.func ⟨"is_integer", "is_integer", defArgs (top 14), .stmts (defBody (top 14)), defScope (top 14), 3, [], .none, .none, .none, (.str "tenwhole.decimals" 296), none, (.ref 144), .none, 0⟩), ⟨[]⟩⟩
def o_55_146 (P : Params) : Obj := ⟨(.type "tuple"), none, (.seq ⟨([] : List Value)⟩ 0), ⟨[]⟩⟩
def o_55_147 (P : Params) : Obj := ⟨.none, none, (.fields ⟨([] : List Value)⟩), ⟨[]⟩⟩
def o_55_148 (P : Params) : Obj := ⟨(.type "tuple"), none, (.seq ⟨(([(.str "thing" 376)] : List Value))⟩ 0), ⟨[]⟩⟩
def o_55_149 (P : Params) : Obj := ⟨(.type "tuple"), none, (.seq ⟨([] : List Value)⟩ 0), ⟨[]⟩⟩
def o_55_150 (P : Params) : Obj := ⟨.none, none, (.func ⟨"is_exponent", "is_exponent", defArgs (top 15), .stmts (defBody (top 15)), defScope (top 15), 0, [], .none, .none, .none, .none, none, .none, .none, 0⟩), ⟨[]⟩⟩
def o_55_151 (P : Params) : Obj := ⟨(.type "code"), none, (.fields ⟨(([(.str "is_exponent" 373), (.str "is_exponent" 374), (.str "/claim/cut.py" 375), (.int (56) 0), (.int (1) 0), (.int (0) 0), (.int (0) 0), (.int (3) 0), (.ref 146), (.bool true), (.int (181) 0), (.ref 147)] : List Value) ++ ([.none, (.ref 148), (.ref 149), (.ref 150), (.int (377) 0), (.int (56) 0), (.str "/claim/cut.py" 378)] : List Value))⟩), ⟨[]⟩⟩
def o_55_152 (P : Params) : Obj := ⟨(.type "function"), none, (.func ⟨"is_exponent", "is_exponent", defArgs (top 15), .stmts (defBody (top 15)), defScope (top 15), 3, [], .none, .none, .none, (.str "tenwhole.decimals" 296), none, (.ref 151), .none, 0⟩), ⟨[]⟩⟩
def o_55_153 (P : Params) : Obj := ⟨(.type "tuple"), none, (.seq ⟨([] : List Value)⟩ 0), ⟨[]⟩⟩
def o_55_154 (P : Params) : Obj := ⟨.none, none, (.fields ⟨([] : List Value)⟩), ⟨[]⟩⟩
def o_55_155 (P : Params) : Obj := ⟨(.type "tuple"), none, (.seq ⟨(([(.str "a" 383)] : List Value))⟩ 0), ⟨[]⟩⟩
def o_55_156 (P : Params) : Obj := ⟨(.type "tuple"), none, (.seq ⟨([] : List Value)⟩ 0), ⟨[]⟩⟩
def o_55_157 (P : Params) : Obj := ⟨.none, none, (.func ⟨"is_finite", "is_finite", defArgs (top 16), .stmts (defBody (top 16)), defScope (top 16), 0, [], .none, .none, .none, .none, none, .none, .none, 0⟩), ⟨[]⟩⟩
def o_55_158 (P : Params) : Obj := ⟨(.type "code"), none, (.fields ⟨(([(.str "is_finite" 380), (.str "is_finite" 381), (.str "/claim/cut.py" 382), (.int (58) 0), (.int (1) 0), (.int (0) 0), (.int (0) 0), (.int (3) 0), (.ref 153), (.bool true), (.int (181) 0), (.ref 154)] : List Value) ++ ([.none, (.ref 155), (.ref 156), (.ref 157), (.int (384) 0), (.int (58) 0), (.str "/claim/cut.py" 385)] : List Value))⟩), ⟨[]⟩⟩
def o_55_159 (P : Params) : Obj := ⟨(.type "function"), none, (.func ⟨"is_finite", "is_finite", defArgs (top 16), .stmts (defBody (top 16)), defScope (top 16), 3, [], .none, .none, .none, (.str "tenwhole.decimals" 296), none, (.ref 158), .none, 0⟩), ⟨[]⟩⟩
def o_55_160 (P : Params) : Obj := ⟨(.type "tuple"), none, (.seq ⟨([] : List Value)⟩ 0), ⟨[]⟩⟩
def o_55_161 (P : Params) : Obj := ⟨.none, none, (.fields ⟨([] : List Value)⟩), ⟨[]⟩⟩
def o_55_162 (P : Params) : Obj := ⟨(.type "tuple"), none, (.seq ⟨(([(.str "a" 390)] : List Value))⟩ 0), ⟨[]⟩⟩
def o_55_163 (P : Params) : Obj := ⟨(.type "tuple"), none, (.seq ⟨([] : List Value)⟩ 0), ⟨[]⟩⟩
def o_55_164 (P : Params) : Obj := ⟨.none, none, (.func ⟨"is_infinite", "is_infinite", defArgs (top 17), .stmts (defBody (top 17)), defScope (top 17), 0, [], .none, .none, .none, .none, none, .none, .none, 0⟩), ⟨[]⟩⟩
def o_55_165 (P : Params) : Obj := ⟨(.type "code"), none, (.fields ⟨(([(.str "is_infinite" 387), (.str "is_infinite" 388), (.str "/claim/cut.py" 389), (.int (60) 0), (.int (1) 0), (.int (0) 0), (.int (0) 0), (.int (3) 0), (.ref 160), (.bool true), (.int (181) 0), (.ref 161)] : List Value) ++ ([.none, (.ref 162), (.ref 163), (.ref 164), (.int (391) 0), (.int (60) 0), (.str "/claim/cut.py" 392)] : List Value))⟩), ⟨[]⟩⟩
def o_55_166 (P : Params) : Obj := ⟨(.type "function"), none, (.func ⟨"is_infinite", "is_infinite", defArgs (top 17), .stmts (defBody (top 17)), defScope (top 17), 3, [], .none, .none, .none, (.str "tenwhole.decimals" 296), none, (.ref 165), .none, 0⟩), ⟨[]⟩⟩
def o_55_167 (P : Params) : Obj := ⟨(.type "tuple"), none, (.seq ⟨([] : List Value)⟩ 0), ⟨[]⟩⟩
def o_55_168 (P : Params) : Obj := ⟨.none, none, (.fields ⟨([] : List Value)⟩), ⟨[]⟩⟩
def o_55_169 (P : Params) : Obj := ⟨(.type "tuple"), none, (.seq ⟨(([(.str "a" 397)] : List Value))⟩ 0), ⟨[]⟩⟩
def o_55_170 (P : Params) : Obj := ⟨(.type "tuple"), none, (.seq ⟨([] : List Value)⟩ 0), ⟨[]⟩⟩
def o_55_171 (P : Params) : Obj := ⟨.none, none, (.func ⟨"is_nan", "is_nan", defArgs (top 18), .stmts (defBody (top 18)), defScope (top 18), 0, [], .none, .none, .none, .none, none, .none, .none, 0⟩), ⟨[]⟩⟩
def o_55_172 (P : Params) : Obj := ⟨(.type "code"), none, (.fields ⟨(([(.str "is_nan" 394), (.str "is_nan" 395), (.str "/claim/cut.py" 396), (.int (62) 0), (.int (1) 0), (.int (0) 0), (.int (0) 0), (.int (3) 0), (.ref 167), (.bool true), (.int (181) 0), (.ref 168)] : List Value) ++ ([.none, (.ref 169), (.ref 170), (.ref 171), (.int (398) 0), (.int (62) 0), (.str "/claim/cut.py" 399)] : List Value))⟩), ⟨[]⟩⟩
def o_55_173 (P : Params) : Obj := ⟨(.type "function"), none, (.func ⟨"is_nan", "is_nan", defArgs (top 18), .stmts (defBody (top 18)), defScope (top 18), 3, [], .none, .none, .none, (.str "tenwhole.decimals" 296), none, (.ref 172), .none, 0⟩), ⟨[]⟩⟩
def o_55_174 (P : Params) : Obj := ⟨(.type "tuple"), none, (.seq ⟨([] : List Value)⟩ 0), ⟨[]⟩⟩
def o_55_175 (P : Params) : Obj := ⟨.none, none, (.fields ⟨([] : List Value)⟩), ⟨[]⟩⟩
def o_55_176 (P : Params) : Obj := ⟨(.type "tuple"), none, (.seq ⟨(([(.str "operand" 404)] : List Value))⟩ 0), ⟨[]⟩⟩
def o_55_177 (P : Params) : Obj := ⟨(.type "tuple"), none, (.seq ⟨([] : List Value)⟩ 0), ⟨[]⟩⟩
def o_55_178 (P : Params) : Obj := ⟨.none, none, (.func ⟨"decimal_of", "decimal_of", defArgs (top 19), .stmts (defBody (top 19)), defScope (top 19), 0, [], .none, .none, .none, .none, none, .none, .none, 0⟩), ⟨[]⟩⟩
def o_55_179 (P : Params) : Obj := ⟨(.type "code"), none, (.fields ⟨(([(.str "decimal_of" 401), (.str "decimal_of" 402), (.str "/claim/cut.py" 403), (.int (64) 0), (.int (1) 0), (.int (0) 0), (.int (0) 0), (.int (3) 0), (.ref 174), (.bool true), (.int (181) 0), (.ref 175)] : List Value) ++ ([.none, (.ref 176), (.ref 177), (.ref 178), (.int (405) 0), (.int (64) 0), (.str "/claim/cut.py" 406)] : List Value))⟩), ⟨[]⟩⟩
def o_55_180 (P : Params) : Obj := ⟨(.type "function"), none, (.func ⟨"decimal_of", "decimal_of", defArgs (top 19), .stmts (defBody (top 19)), defScope (top 19), 3, [], .none, .none, .none, (.str "tenwhole.decimals" 296), none, (.ref 179), .none, 0⟩), ⟨[]⟩⟩
def o_55_181 (P : Params) : Obj := ⟨(.type "tuple"), none, (.seq ⟨([] : List Value)⟩ 0), ⟨[]⟩⟩
def o_55_182 (P : Params) : Obj := ⟨.none, none, (.fields ⟨([] : List Value)⟩), ⟨[]⟩⟩
def o_55_183 (P : Params) : Obj := ⟨(.type "tuple"), none, (.seq ⟨(([(.str "many" 411), (.str "found" 412), (.str "base" 413)] : List Value))⟩ 0), ⟨[]⟩⟩
def o_55_184 (P : Params) : Obj := ⟨(.type "tuple"), none, (.seq ⟨([] : List Value)⟩ 0), ⟨[]⟩⟩
def o_55_185 (P : Params) : Obj := ⟨.none, none, (.func ⟨"tens", "tens", defArgs (top 20), .stmts (defBody (top 20)), defScope (top 20), 0, [], .none, .none, .none, .none, none, .none, .none, 0⟩), ⟨[]⟩⟩
def o_55_186 (P : Params) : Obj := ⟨(.type "code"), none, (.fields ⟨(([(.str "tens" 408), (.str "tens" 409), (.str "/claim/cut.py" 410), (.int (70) 0), (.int (1) 0), (.int (0) 0), (.int (0) 0), (.int (3) 0), (.ref 181), (.bool true), (.int (181) 0), (.ref 182)] : List Value) ++ ([.none, (.ref 183), (.ref 184), (.ref 185), (.int (414) 0), (.int (70) 0), (.str "/claim/cut.py" 415)] : List Value))⟩), ⟨[]⟩⟩
def o_55_187 (P : Params) : Obj := ⟨(.type "function"), none, (.func ⟨"tens", "tens", defArgs (top 20), .stmts (defBody (top 20)), defScope (top 20), 3, [], .none, .none, .none, (.str "tenwhole.decimals" 296), none, (.ref 186), .none, 0⟩), ⟨[]⟩⟩
def o_55_188 (P : Params) : Obj := ⟨(.type "tuple"), none, (.seq ⟨([] : List Value)⟩ 0), ⟨[]⟩⟩
def o_55_189 (P : Params) : Obj := ⟨.none, none, (.fields ⟨([] : List Value)⟩), ⟨[]⟩⟩
def o_55_190 (P : Params) : Obj := ⟨(.type "tuple"), none, (.seq ⟨(([(.str "number" 420), (.str "found" 421)] : List Value))⟩ 0), ⟨[]⟩⟩
def o_55_191 (P : Params) : Obj := ⟨(.type "tuple"), none, (.seq ⟨([] : List Value)⟩ 0), ⟨[]⟩⟩
def o_55_192 (P : Params) : Obj := ⟨.none, none, (.func ⟨"count_digits", "count_digits", defArgs (top 21), .stmts (defBody (top 21)), defScope (top 21), 0, [], .none, .none, .none, .none, none, .none, .none, 0⟩), ⟨[]⟩⟩
def o_55_193 (P : Params) : Obj := ⟨(.type "code"), none, (.fields ⟨(([(.str "count_digits" 417), (.str "count_digits" 418), (.str "/claim/cut.py" 419), (.int (77) 0), (.int (1) 0), (.int (0) 0), (.int (0) 0), (.int (3) 0), (.ref 188), (.bool true), (.int (181) 0), (.ref 189)] : List Value) ++ ([.none, (.ref 190), (.ref 191), (.ref 192), (.int (422) 0), (.int (77) 0), (.str "/claim/cut.py" 423)] : List Value))⟩), ⟨[]⟩⟩
def o_55_194 (P : Params) : Obj := ⟨(.type "function"), none, (.func ⟨"count_digits", "count_digits", defArgs (top 21), .stmts (defBody (top 21)), defScope (top 21), 3, [], .none, .none, .none, (.str "tenwhole.decimals" 296), none, (.ref 193), .none, 0⟩), ⟨[]⟩⟩
def o_55_195 (P : Params) : Obj := ⟨(.type "tuple"), none, (.seq ⟨([] : List Value)⟩ 0), ⟨[]⟩⟩
def o_55_196 (P : Params) : Obj := ⟨.none, none, (.fields ⟨([] : List Value)⟩), ⟨[]⟩⟩
def o_55_197 (P : Params) : Obj := ⟨(.type "tuple"), none, (.seq ⟨(([(.str "a" 428), (.str "b" 429), (.str "first" 430), (.str "second" 431)] : List Value))⟩ 0), ⟨[]⟩⟩
def o_55_198 (P : Params) : Obj := ⟨(.type "tuple"), none, (.seq ⟨([] : List Value)⟩ 0), ⟨[]⟩⟩
def o_55_199 (P : Params) : Obj := ⟨.none, none, (.func ⟨"order_of", "order_of", defArgs (top 22), .stmts (defBody (top 22)), defScope (top 22), 0, [], .none, .none, .none, .none, none, .none, .none, 0⟩), ⟨[]⟩⟩
def o_55_200 (P : Params) : Obj := ⟨(.type "code"), none, (.fields ⟨(([(.str "order_of" 425), (.str "order_of" 426), (.str "/claim/cut.py" 427), (.int (83) 0), (.int (2) 0), (.int (0) 0), (.int (0) 0), (.int (3) 0), (.ref 195), (.bool true), (.int (181) 0), (.ref 196)] : List Value) ++ ([.none, (.ref 197), (.ref 198), (.ref 199), (.int (432) 0), (.int (83) 0), (.str "/claim/cut.py" 433)] : List Value))⟩), ⟨[]⟩⟩
def o_55_201 (P : Params) : Obj := ⟨(.type "function"), none, (.func ⟨"order_of", "order_of", defArgs (top 22), .stmts (defBody (top 22)), defScope (top 22), 3, [], .none, .none, .none, (.str "tenwhole.decimals" 296), none, (.ref 200), .none, 0⟩), ⟨[]⟩⟩
def o_55_202 (P : Params) : Obj := ⟨(.type "tuple"), none, (.seq ⟨([] : List Value)⟩ 0), ⟨[]⟩⟩
def o_55_203 (P : Params) : Obj := ⟨.none, none, (.fields ⟨([] : List Value)⟩), ⟨[]⟩⟩
def o_55_204 (P : Params) : Obj := ⟨(.type "tuple"), none, (.seq ⟨(([(.str "a" 438), (.str "found" 439)] : List Value))⟩ 0), ⟨[]⟩⟩
def o_55_205 (P : Params) : Obj := ⟨(.type "tuple"), none, (.seq ⟨([] : List Value)⟩ 0), ⟨[]⟩⟩
def o_55_206 (P : Params) : Obj := ⟨.none, none, (.func ⟨"side_of", "side_of", defArgs (top 23), .stmts (defBody (top 23)), defScope (top 23), 0, [], .none, .none, .none, .none, none, .none, .none, 0⟩), ⟨[]⟩⟩
def o_55_207 (P : Params) : Obj := ⟨(.type "code"), none, (.fields ⟨(([(.str "side_of" 435), (.str "side_of" 436), (.str "/claim/cut.py" 437), (.int (92) 0), (.int (1) 0), (.int (0) 0), (.int (0) 0), (.int (3) 0), (.ref 202), (.bool true), (.int (181) 0), (.ref 203)] : List Value) ++ ([.none, (.ref 204), (.ref 205), (.ref 206), (.int (440) 0), (.int (92) 0), (.str "/claim/cut.py" 441)] : List Value))⟩), ⟨[]⟩⟩
def o_55_208 (P : Params) : Obj := ⟨(.type "function"), none, (.func ⟨"side_of", "side_of", defArgs (top 23), .stmts (defBody (top 23)), defScope (top 23), 3, [], .none, .none, .none, (.str "tenwhole.decimals" 296), none, (.ref 207), .none, 0⟩), ⟨[]⟩⟩
def o_55_209 (P : Params) : Obj := ⟨(.type "tuple"), none, (.seq ⟨([] : List Value)⟩ 0), ⟨[]⟩⟩
def o_55_210 (P : Params) : Obj := ⟨.none, none, (.fields ⟨([] : List Value)⟩), ⟨[]⟩⟩
def o_55_211 (P : Params) : Obj := ⟨(.type "tuple"), none, (.seq ⟨(([(.str "a" 446), (.str "b" 447), (.str "shift" 448), (.str "one" 449), (.str "other" 450)] : List Value))⟩ 0), ⟨[]⟩⟩
def o_55_212 (P : Params) : Obj := ⟨(.type "tuple"), none, (.seq ⟨([] : List Value)⟩ 0), ⟨[]⟩⟩
def o_55_213 (P : Params) : Obj := ⟨.none, none, (.func ⟨"size_order", "size_order", defArgs (top 24), .stmts (defBody (top 24)), defScope (top 24), 0, [], .none, .none, .none, .none, none, .none, .none, 0⟩), ⟨[]⟩⟩
def o_55_214 (P : Params) : Obj := ⟨(.type "code"), none, (.fields ⟨(([(.str "size_order" 443), (.str "size_order" 444), (.str "/claim/cut.py" 445), (.int (95) 0), (.int (2) 0), (.int (0) 0), (.int (0) 0), (.int (3) 0), (.ref 209), (.bool true), (.int (181) 0), (.ref 210)] : List Value) ++ ([.none, (.ref 211), (.ref 212), (.ref 213), (.int (451) 0), (.int (95) 0), (.str "/claim/cut.py" 452)] : List Value))⟩), ⟨[]⟩⟩
def o_55_215 (P : Params) : Obj := ⟨(.type "function"), none, (.func ⟨"size_order", "size_order", defArgs (top 24), .stmts (defBody (top 24)), defScope (top 24), 3, [], .none, .none, .none, (.str "tenwhole.decimals" 296), none, (.ref 214), .none, 0⟩), ⟨[]⟩⟩
def o_55_216 (P : Params) : Obj := ⟨(.type "tuple"), none, (.seq ⟨([] : List Value)⟩ 0), ⟨[]⟩⟩
def o_55_217 (P : Params) : Obj := ⟨.none, none, (.fields ⟨([] : List Value)⟩), ⟨[]⟩⟩
def o_55_218 (P : Params) : Obj := ⟨(.type "tuple"), none, (.seq ⟨(([(.str "base" 467), (.str "many" 468), (.str "modulo" 469), (.str "found" 470)] : List Value))⟩ 0), ⟨[]⟩⟩
def o_55_219 (P : Params) : Obj := ⟨(.type "tuple"), none, (.seq ⟨([] : List Value)⟩ 0), ⟨[]⟩⟩
def o_55_220 (P : Params) : Obj := ⟨.none, none, (.func ⟨"power_modulo", "power_modulo", defArgs (top 28), .stmts (defBody (top 28)), defScope (top 28), 0, [], .none, .none, .none, .none, none, .none, .none, 0⟩), ⟨[]⟩⟩
def o_55_221 (P : Params) : Obj := ⟨(.type "code"), none, (.fields ⟨(([(.str "power_modulo" 464), (.str "power_modulo" 465), (.str "/claim/cut.py" 466), (.int (105) 0), (.int (3) 0), (.int (0) 0), (.int (0) 0), (.int (3) 0), (.ref 216), (.bool true), (.int (181) 0), (.ref 217)] : List Value) ++ ([.none, (.ref 218), (.ref 219), (.ref 220), (.int (471) 0), (.int (105) 0), (.str "/claim/cut.py" 472)] : List Value))⟩), ⟨[]⟩⟩
def o_55_222 (P : Params) : Obj := ⟨(.type "function"), none, (.func ⟨"power_modulo", "power_modulo", defArgs (top 28), .stmts (defBody (top 28)), defScope (top 28), 3, [], .none, .none, .none, (.str "tenwhole.integers" 454), none, (.ref 221), .none, 0⟩), ⟨[]⟩⟩
def o_55_223 (P : Params) : Obj := ⟨(.type "tuple"), none, (.seq ⟨([] : List Value)⟩ 0), ⟨[]⟩⟩
def o_55_224 (P : Params) : Obj := ⟨.none, none, (.fields ⟨([] : List Value)⟩), ⟨[]⟩⟩
def o_55_225 (P : Params) : Obj := ⟨(.type "tuple"), none, (.seq ⟨(([(.str "a" 477), (.str "base" 478), (.str "found" 479)] : List Value))⟩ 0), ⟨[]⟩⟩
def o_55_226 (P : Params) : Obj := ⟨(.type "tuple"), none, (.seq ⟨([] : List Value)⟩ 0), ⟨[]⟩⟩
def o_55_227 (P : Params) : Obj := ⟨.none, none, (.func ⟨"number_hash", "number_hash", defArgs (top 29), .stmts (defBody (top 29)), defScope (top 29), 0, [], .none, .none, .none, .none, none, .none, .none, 0⟩), ⟨[]⟩⟩
def o_55_228 (P : Params) : Obj := ⟨(.type "code"), none, (.fields ⟨(([(.str "number_hash" 474), (.str "number_hash" 475), (.str "/claim/cut.py" 476), (.int (112) 0), (.int (1) 0), (.int (0) 0), (.int (0) 0), (.int (3) 0), (.ref 223), (.bool true), (.int (181) 0), (.ref 224)] : List Value) ++ ([.none, (.ref 225), (.ref 226), (.ref 227), (.int (480) 0), (.int (112) 0), (.str "/claim/cut.py" 481)] : List Value))⟩), ⟨[]⟩⟩
def o_55_229 (P : Params) : Obj := ⟨(.type "function"), none, (.func ⟨"number_hash", "number_hash", defArgs (top 29), .stmts (defBody (top 29)), defScope (top 29), 3, [], .none, .none, .none, (.str "tenwhole.integers" 454), none, (.ref 228), .none, 0⟩), ⟨[]⟩⟩
def o_55_230 (P : Params) : Obj := ⟨(.type "tuple"), none, (.seq ⟨([] : List Value)⟩ 0), ⟨[]⟩⟩
def o_55_231 (P : Params) : Obj := ⟨.none, none, (.fields ⟨([] : List Value)⟩), ⟨[]⟩⟩
def o_55_232 (P : Params) : Obj := ⟨(.type "tuple"), none, (.seq ⟨(([(.str "a" 486)] : List Value))⟩ 0), ⟨[]⟩⟩
def o_55_233 (P : Params) : Obj := ⟨(.type "tuple"), none, (.seq ⟨([] : List Value)⟩ 0), ⟨[]⟩⟩
def o_55_234 (P : Params) : Obj := ⟨.none, none, (.func ⟨"finite_of", "finite_of", defArgs (top 30), .stmts (defBody (top 30)), defScope (top 30), 0, [], .none, .none, .none, .none, none, .none, .none, 0⟩), ⟨[]⟩⟩
def o_55_235 (P : Params) : Obj := ⟨(.type "code"), none, (.fields ⟨(([(.str "finite_of" 483), (.str "finite_of" 484), (.str "/claim/cut.py" 485), (.int (122) 0), (.int (1) 0), (.int (0) 0), (.int (0) 0), (.int (3) 0), (.ref 230), (.bool true), (.int (181) 0), (.ref 231)] : List Value) ++ ([.none, (.ref 232), (.ref 233), (.ref 234), (.int (487) 0), (.int (122) 0), (.str "/claim/cut.py" 488)] : List Value))⟩), ⟨[]⟩⟩
def o_55_236 (P : Params) : Obj := ⟨(.type "function"), none, (.func ⟨"finite_of", "finite_of", defArgs (top 30), .stmts (defBody (top 30)), defScope (top 30), 3, [], .none, .none, .none, (.str "tenwhole.integers" 454), none, (.ref 235), .none, 0⟩), ⟨[]⟩⟩
def o_55_237 (P : Params) : Obj := ⟨(.type "tuple"), none, (.seq ⟨([] : List Value)⟩ 0), ⟨[]⟩⟩
def o_55_238 (P : Params) : Obj := ⟨.none, none, (.fields ⟨([] : List Value)⟩), ⟨[]⟩⟩
def o_55_239 (P : Params) : Obj := ⟨(.type "tuple"), none, (.seq ⟨(([(.str "one" 493), (.str "other" 494)] : List Value))⟩ 0), ⟨[]⟩⟩
def o_55_240 (P : Params) : Obj := ⟨(.type "tuple"), none, (.seq ⟨([] : List Value)⟩ 0), ⟨[]⟩⟩
def o_55_241 (P : Params) : Obj := ⟨.none, none, (.func ⟨"common_factor", "common_factor", defArgs (top 31), .stmts (defBody (top 31)), defScope (top 31), 0, [], .none, .none, .none, .none, none, .none, .none, 0⟩), ⟨[]⟩⟩
def o_55_242 (P : Params) : Obj := ⟨(.type "code"), none, (.fields ⟨(([(.str "common_factor" 490), (.str "common_factor" 491), (.str "/claim/cut.py" 492), (.int (129) 0), (.int (2) 0), (.int (0) 0), (.int (0) 0), (.int (3) 0), (.ref 237), (.bool true), (.int (181) 0), (.ref 238)] : List Value) ++ ([.none, (.ref 239), (.ref 240), (.ref 241), (.int (495) 0), (.int (129) 0), (.str "/claim/cut.py" 496)] : List Value))⟩), ⟨[]⟩⟩
def o_55_243 (P : Params) : Obj := ⟨(.type "function"), none, (.func ⟨"common_factor", "common_factor", defArgs (top 31), .stmts (defBody (top 31)), defScope (top 31), 3, [], .none, .none, .none, (.str "tenwhole.integers" 454), none, (.ref 242), .none, 0⟩), ⟨[]⟩⟩
def o_55_244 (P : Params) : Obj := ⟨(.type "tuple"), none, (.seq ⟨([] : List Value)⟩ 0), ⟨[]⟩⟩
def o_55_245 (P : Params) : Obj := ⟨.none, none, (.fields ⟨([] : List Value)⟩), ⟨[]⟩⟩
def o_55_246 (P : Params) : Obj := ⟨(.type "tuple"), none, (.seq ⟨(([(.str "a" 501), (.str "top" 502), (.str "bottom" 503), (.str "common" 504)] : List Value))⟩ 0), ⟨[]⟩⟩
def o_55_247 (P : Params) : Obj := ⟨(.type "tuple"), none, (.seq ⟨([] : List Value)⟩ 0), ⟨[]⟩⟩
def o_55_248 (P : Params) : Obj := ⟨.none, none, (.func ⟨"ratio", "ratio", defArgs (top 32), .stmts (defBody (top 32)), defScope (top 32), 0, [], .none, .none, .none, .none, none, .none, .none, 0⟩), ⟨[]⟩⟩
def o_55_249 (P : Params) : Obj := ⟨(.type "code"), none, (.fields ⟨(([(.str "ratio" 498), (.str "ratio" 499), (.str "/claim/cut.py" 500), (.int (133) 0), (.int (1) 0), (.int (0) 0), (.int (0) 0), (.int (3) 0), (.ref 244), (.bool true), (.int (181) 0), (.ref 245)] : List Value) ++ ([.none, (.ref 246), (.ref 247), (.ref 248), (.int (505) 0), (.int (133) 0), (.str "/claim/cut.py" 506)] : List Value))⟩), ⟨[]⟩⟩
def o_55_250 (P : Params) : Obj := ⟨(.type "function"), none, (.func ⟨"ratio", "ratio", defArgs (top 32), .stmts (defBody (top 32)), defScope (top 32), 3, [], .none, .none, .none, (.str "tenwhole.integers" 454), none, (.ref 249), .none, 0⟩), ⟨[]⟩⟩
def o_55_251 (P : Params) : Obj := ⟨(.type "tuple"), none, (.seq ⟨([] : List Value)⟩ 0), ⟨[]⟩⟩
def o_55_252 (P : Params) : Obj := ⟨.none, none, (.fields ⟨([] : List Value)⟩), ⟨[]⟩⟩
def o_55_253 (P : Params) : Obj := ⟨(.type "tuple"), none, (.seq ⟨(([(.str "a" 511), (.str "unit" 512), (.str "whole" 513), (.str "rest" 514)] : List Value))⟩ 0), ⟨[]⟩⟩
def o_55_254 (P : Params) : Obj := ⟨(.type "tuple"), none, (.seq ⟨([] : List Value)⟩ 0), ⟨[]⟩⟩
def o_55_255 (P : Params) : Obj := ⟨.none, none, (.func ⟨"cut_whole", "cut_whole", defArgs (top 33), .stmts (defBody (top 33)), defScope (top 33), 0, [], .none, .none, .none, .none, none, .none, .none, 0⟩), ⟨[]⟩⟩
def o_55_256 (P : Params) : Obj := ⟨(.type "code"), none, (.fields ⟨(([(.str "cut_whole" 508), (.str "cut_whole" 509), (.str "/claim/cut.py" 510), (.int (140) 0), (.int (1) 0), (.int (0) 0), (.int (0) 0), (.int (3) 0), (.ref 251), (.bool true), (.int (181) 0), (.ref 252)] : List Value) ++ ([.none, (.ref 253), (.ref 254), (.ref 255), (.int (515) 0), (.int (140) 0), (.str "/claim/cut.py" 516)] : List Value))⟩), ⟨[]⟩⟩
def o_55_257 (P : Params) : Obj := ⟨(.type "function"), none, (.func ⟨"cut_whole", "cut_whole", defArgs (top 33), .stmts (defBody (top 33)), defScope (top 33), 3, [], .none, .none, .none, (.str "tenwhole.integers" 454), none, (.ref 256), .none, 0⟩), ⟨[]⟩⟩
def o_55_258 (P : Params) : Obj := ⟨(.type "tuple"), none, (.seq ⟨([] : List Value)⟩ 0), ⟨[]⟩⟩
def o_55_259 (P : Params) : Obj := ⟨.none, none, (.fields ⟨([] : List Value)⟩), ⟨[]⟩⟩
def o_55_260 (P : Params) : Obj := ⟨(.type "tuple"), none, (.seq ⟨(([(.str "a" 521), (.str "whole" 522)] : List Value))⟩ 0), ⟨[]⟩⟩
def o_55_261 (P : Params) : Obj := ⟨(.type "tuple"), none, (.seq ⟨([] : List Value)⟩ 0), ⟨[]⟩⟩
def o_55_262 (P : Params) : Obj := ⟨.none, none, (.func ⟨"with_sign_of", "with_sign_of", defArgs (top 34), .stmts (defBody (top 34)), defScope (top 34), 0, [], .none, .none, .none, .none, none, .none, .none, 0⟩), ⟨[]⟩⟩
def o_55_263 (P : Params) : Obj := ⟨(.type "code"), none, (.fields ⟨(([(.str "with_sign_of" 518), (.str "with_sign_of" 519), (.str "/claim/cut.py" 520), (.int (150) 0), (.int (2) 0), (.int (0) 0), (.int (0) 0), (.int (3) 0), (.ref 258), (.bool true), (.int (181) 0), (.ref 259)] : List Value) ++ ([.none, (.ref 260), (.ref 261), (.ref 262), (.int (523) 0), (.int (150) 0), (.str "/claim/cut.py" 524)] : List Value))⟩), ⟨[]⟩⟩
def o_55_264 (P : Params) : Obj := ⟨(.type "function"), none, (.func ⟨"with_sign_of", "with_sign_of", defArgs (top 34), .stmts (defBody (top 34)), defScope (top 34), 3, [], .none, .none, .none, (.str "tenwhole.integers" 454), none, (.ref 263), .none, 0⟩), ⟨[]⟩⟩
def o_55_265 (P : Params) : Obj := ⟨(.type "tuple"), none, (.seq ⟨([] : List Value)⟩ 0), ⟨[]⟩⟩
def o_55_266 (P : Params) : Obj := ⟨.none, none, (.fields ⟨([] : List Value)⟩), ⟨[]⟩⟩
def o_55_267 (P : Params) : Obj := ⟨(.type "tuple"), none, (.seq ⟨(([(.str "a" 529)] : List Value))⟩ 0), ⟨[]⟩⟩
def o_55_268 (P : Params) : Obj := ⟨(.type "tuple"), none, (.seq ⟨([] : List Value)⟩ 0), ⟨[]⟩⟩
def o_55_269 (P : Params) : Obj := ⟨.none, none, (.func ⟨"truncated", "truncated", defArgs (top 35), .stmts (defBody (top 35)), defScope (top 35), 0, [], .none, .none, .none, .none, none, .none, .none, 0⟩), ⟨[]⟩⟩
def o_55_270 (P : Params) : Obj := ⟨(.type "code"), none, (.fields ⟨(([(.str "truncated" 526), (.str "truncated" 527), (.str "/claim/cut.py" 528), (.int (152) 0), (.int (1) 0), (.int (0) 0), (.int (0) 0), (.int (3) 0), (.ref 265), (.bool true), (.int (181) 0), (.ref 266)] : List Value) ++ ([.none, (.ref 267), (.ref 268), (.ref 269), (.int (530) 0), (.int (152) 0), (.str "/claim/cut.py" 531)] : List Value))⟩), ⟨[]⟩⟩
def o_55_271 (P : Params) : Obj := ⟨(.type "function"), none, (.func ⟨"truncated", "truncated", defArgs (top 35), .stmts (defBody (top 35)), defScope (top 35), 3, [], .none, .none, .none, (.str "tenwhole.integers" 454), none, (.ref 270), .none, 0⟩), ⟨[]⟩⟩
def o_55_272 (P : Params) : Obj := ⟨(.type "tuple"), none, (.seq ⟨([] : List Value)⟩ 0), ⟨[]⟩⟩
def o_55_273 (P : Params) : Obj := ⟨.none, none, (.fields ⟨([] : List Value)⟩), ⟨[]⟩⟩
def o_55_274 (P : Params) : Obj := ⟨(.type "tuple"), none, (.seq ⟨(([(.str "a" 536), (.str "whole" 537), (.str "rest" 538)] : List Value))⟩ 0), ⟨[]⟩⟩
def o_55_275 (P : Params) : Obj := ⟨(.type "tuple"), none, (.seq ⟨([] : List Value)⟩ 0), ⟨[]⟩⟩
def o_55_276 (P : Params) : Obj := ⟨.none, none, (.func ⟨"floored", "floored", defArgs (top 36), .stmts (defBody (top 36)), defScope (top 36), 0, [], .none, .none, .none, .none, none, .none, .none, 0⟩), ⟨[]⟩⟩
def o_55_277 (P : Params) : Obj := ⟨(.type "code"), none, (.fields ⟨(([(.str "floored" 533), (.str "floored" 534), (.str "/claim/cut.py" 535), (.int (155) 0), (.int (1) 0), (.int (0) 0), (.int (0) 0), (.int (3) 0), (.ref 272), (.bool true), (.int (181) 0), (.ref 273)] : List Value) ++ ([.none, (.ref 274), (.ref 275), (.ref 276), (.int (539) 0), (.int (155) 0), (.str "/claim/cut.py" 540)] : List Value))⟩), ⟨[]⟩⟩
def o_55_278 (P : Params) : Obj := ⟨(.type "function"), none, (.func ⟨"floored", "floored", defArgs (top 36), .stmts (defBody (top 36)), defScope (top 36), 3, [], .none, .none, .none, (.str "tenwhole.integers" 454), none, (.ref 277), .none, 0⟩), ⟨[]⟩⟩
def o_55_279 (P : Params) : Obj := ⟨(.type "tuple"), none, (.seq ⟨([] : List Value)⟩ 0), ⟨[]⟩⟩
def o_55_280 (P : Params) : Obj := ⟨.none, none, (.fields ⟨([] : List Value)⟩), ⟨[]⟩⟩
def o_55_281 (P : Params) : Obj := ⟨(.type "tuple"), none, (.seq ⟨(([(.str "a" 545), (.str "whole" 546), (.str "rest" 547)] : List Value))⟩ 0), ⟨[]⟩⟩
def o_55_282 (P : Params) : Obj := ⟨(.type "tuple"), none, (.seq ⟨([] : List Value)⟩ 0), ⟨[]⟩⟩
def o_55_283 (P : Params) : Obj := ⟨.none, none, (.func ⟨"ceiled", "ceiled", defArgs (top 37), .stmts (defBody (top 37)), defScope (top 37), 0, [], .none, .none, .none, .none, none, .none, .none, 0⟩), ⟨[]⟩⟩
def o_55_284 (P : Params) : Obj := ⟨(.type "code"), none, (.fields ⟨(([(.str "ceiled" 542), (.str "ceiled" 543), (.str "/claim/cut.py" 544), (.int (159) 0), (.int (1) 0), (.int (0) 0), (.int (0) 0), (.int (3) 0), (.ref 279), (.bool true), (.int (181) 0), (.ref 280)] : List Value) ++ ([.none, (.ref 281), (.ref 282), (.ref 283), (.int (548) 0), (.int (159) 0), (.str "/claim/cut.py" 549)] : List Value))⟩), ⟨[]⟩⟩
def o_55_285 (P : Params) : Obj := ⟨(.type "function"), none, (.func ⟨"ceiled", "ceiled", defArgs (top 37), .stmts (defBody (top 37)), defScope (top 37), 3, [], .none, .none, .none, (.str "tenwhole.integers" 454), none, (.ref 284), .none, 0⟩), ⟨[]⟩⟩
def o_55_286 (P : Params) : Obj := ⟨(.type "tuple"), none, (.seq ⟨([] : List Value)⟩ 0), ⟨[]⟩⟩
def o_55_287 (P : Params) : Obj := ⟨.none, none, (.fields ⟨([] : List Value)⟩), ⟨[]⟩⟩
def o_55_288 (P : Params) : Obj := ⟨(.type "tuple"), none, (.seq ⟨(([(.str "a" 554), (.str "whole" 555), (.str "rest" 556)] : List Value))⟩ 0), ⟨[]⟩⟩
def o_55_289 (P : Params) : Obj := ⟨(.type "tuple"), none, (.seq ⟨([] : List Value)⟩ 0), ⟨[]⟩⟩
def o_55_290 (P : Params) : Obj := ⟨.none, none, (.func ⟨"nearest", "nearest", defArgs (top 38), .stmts (defBody (top 38)), defScope (top 38), 0, [], .none, .none, .none, .none, none, .none, .none, 0⟩), ⟨[]⟩⟩
def o_55_291 (P : Params) : Obj := ⟨(.type "code"), none, (.fields ⟨(([(.str "nearest" 551), (.str "nearest" 552), (.str "/claim/cut.py" 553), (.int (163) 0), (.int (1) 0), (.int (0) 0), (.int (0) 0), (.int (3) 0), (.ref 286), (.bool true), (.int (181) 0), (.ref 287)] : List Value) ++ ([.none, (.ref 288), (.ref 289), (.ref 290), (.int (557) 0), (.int (163) 0), (.str "/claim/cut.py" 558)] : List Value))⟩), ⟨[]⟩⟩
def o_55_292 (P : Params) : Obj := ⟨(.type "function"), none, (.func ⟨"nearest", "nearest", defArgs (top 38), .stmts (defBody (top 38)), defScope (top 38), 3, [], .none, .none, .none, (.str "tenwhole.integers" 454), none, (.ref 291), .none, 0⟩), ⟨[]⟩⟩
def o_55_293 (P : Params) : Obj := ⟨(.type "tuple"), none, (.seq ⟨([] : List Value)⟩ 0), ⟨[]⟩⟩
def o_55_294 (P : Params) : Obj := ⟨.none, none, (.fields ⟨([] : List Value)⟩), ⟨[]⟩⟩
def o_55_295 (P : Params) : Obj := ⟨(.type "tuple"), none, (.seq ⟨(([(.str "_law_cell" 565)] : List Value))⟩ 0), ⟨[]⟩⟩
def o_55_296 (P : Params) : Obj := ⟨(.type "tuple"), none, (.seq ⟨([] : List Value)⟩ 0), ⟨[]⟩⟩
def o_55_297 (P : Params) : Obj := ⟨.none, none, (.func ⟨"_law_well", "_law_well", defArgs (top 40), .stmts (defBody (top 40)), defScope (top 40), 0, [], .none, .none, .none, .none, none, .none, .none, 0⟩), ⟨[]⟩⟩
def o_55_298 (P : Params) : Obj := ⟨(.type "code"), none, (.fields ⟨(([(.str "_law_well" 562), (.str "_law_well" 563), (.str "/claim/cut.py" 564), (.int (168) 0), (.int (1) 0), (.int (0) 0), (.int (0) 0), (.int (3) 0), (.ref 293), (.bool true), (.int (181) 0), (.ref 294)] : List Value) ++ ([.none, (.ref 295), (.ref 296), (.ref 297), (.int (566) 0), (.int (168) 0), (.str "/claim/cut.py" 567)] : List Value))⟩), ⟨[]⟩⟩
def o_55_299 (P : Params) : Obj := ⟨(.type "function"), none, (.func ⟨"_law_well", "_law_well", defArgs (top 40), .stmts (defBody (top 40)), defScope (top 40), 3, [], .none, .none, .none, (.str "law_tenwhole_k92_whole_ratios_and_integers" 560), none, (.ref 298), .none, 0⟩), ⟨[]⟩⟩
def o_55_300 (P : Params) : Obj := ⟨(.type "tuple"), none, (.seq ⟨([] : List Value)⟩ 0), ⟨[]⟩⟩
def o_55_301 (P : Params) : Obj := ⟨.none, none, (.fields ⟨([] : List Value)⟩), ⟨[]⟩⟩
def o_55_302 (P : Params) : Obj := ⟨(.type "tuple"), none, (.seq ⟨(([(.str "_law_well_here" 572), (.str "_law_many" 573), (.str "_law_digit" 574), (.str "_law_number_here" 575)] : List Value))⟩ 0), ⟨[]⟩⟩
def o_55_303 (P : Params) : Obj := ⟨(.type "tuple"), none, (.seq ⟨([] : List Value)⟩ 0), ⟨[]⟩⟩
def o_55_304 (P : Params) : Obj := ⟨.none, none, (.func ⟨"_law_draw", "_law_draw", defArgs (top 41), .stmts (defBody (top 41)), defScope (top 41), 0, [], .none, .none, .none, .none, none, .none, .none, 0⟩), ⟨[]⟩⟩
def o_55_305 (P : Params) : Obj := ⟨(.type "code"), none, (.fields ⟨(([(.str "_law_draw" 569), (.str "_law_draw" 570), (.str "/claim/cut.py" 571), (.int (170) 0), (.int (2) 0), (.int (0) 0), (.int (0) 0), (.int (3) 0), (.ref 300), (.bool true), (.int (181) 0), (.ref 301)] : List Value) ++ ([.none, (.ref 302), (.ref 303), (.ref 304), (.int (576) 0), (.int (170) 0), (.str "/claim/cut.py" 577)] : List Value))⟩), ⟨[]⟩⟩
def o_55_306 (P : Params) : Obj := ⟨(.type "function"), none, (.func ⟨"_law_draw", "_law_draw", defArgs (top 41), .stmts (defBody (top 41)), defScope (top 41), 3, [], .none, .none, .none, (.str "law_tenwhole_k92_whole_ratios_and_integers" 560), none, (.ref 305), .none, 0⟩), ⟨[]⟩⟩
def o_55_307 (P : Params) : Obj := ⟨(.type "tuple"), none, (.seq ⟨([] : List Value)⟩ 0), ⟨[]⟩⟩
def o_55_308 (P : Params) : Obj := ⟨.none, none, (.fields ⟨([] : List Value)⟩), ⟨[]⟩⟩
def o_55_309 (P : Params) : Obj := ⟨(.type "tuple"), none, (.seq ⟨(([(.str "_law_well_here" 582), (.str "_law_some" 583)] : List Value))⟩ 0), ⟨[]⟩⟩
def o_55_310 (P : Params) : Obj := ⟨(.type "tuple"), none, (.seq ⟨([] : List Value)⟩ 0), ⟨[]⟩⟩
def o_55_311 (P : Params) : Obj := ⟨.none, none, (.func ⟨"_law_pick", "_law_pick", defArgs (top 42), .stmts (defBody (top 42)), defScope (top 42), 0, [], .none, .none, .none, .none, none, .none, .none, 0⟩), ⟨[]⟩⟩
def o_55_312 (P : Params) : Obj := ⟨(.type "code"), none, (.fields ⟨(([(.str "_law_pick" 579), (.str "_law_pick" 580), (.str "/claim/cut.py" 581), (.int (179) 0), (.int (2) 0), (.int (0) 0), (.int (0) 0), (.int (3) 0), (.ref 307), (.bool true), (.int (181) 0), (.ref 308)] : List Value) ++ ([.none, (.ref 309), (.ref 310), (.ref 311), (.int (584) 0), (.int (179) 0), (.str "/claim/cut.py" 585)] : List Value))⟩), ⟨[]⟩⟩
def o_55_313 (P : Params) : Obj := ⟨(.type "function"), none, (.func ⟨"_law_pick", "_law_pick", defArgs (top 42), .stmts (defBody (top 42)), defScope (top 42), 3, [], .none, .none, .none, (.str "law_tenwhole_k92_whole_ratios_and_integers" 560), none, (.ref 312), .none, 0⟩), ⟨[]⟩⟩
def o_55_314 (P : Params) : Obj := ⟨(.type "tuple"), none, (.seq ⟨([] : List Value)⟩ 0), ⟨[]⟩⟩
def o_55_315 (P : Params) : Obj := ⟨.none, none, (.fields ⟨([] : List Value)⟩), ⟨[]⟩⟩
def o_55_316 (P : Params) : Obj := ⟨(.type "tuple"), none, (.seq ⟨(([(.str "_law_many" 590)] : List Value))⟩ 0), ⟨[]⟩⟩
def o_55_317 (P : Params) : Obj := ⟨(.type "tuple"), none, (.seq ⟨([] : List Value)⟩ 0), ⟨[]⟩⟩
def o_55_318 (P : Params) : Obj := ⟨.none, none, (.func ⟨"_law_tens", "_law_tens", defArgs (top 43), .stmts (defBody (top 43)), defScope (top 43), 0, [], .none, .none, .none, .none, none, .none, .none, 0⟩), ⟨[]⟩⟩
def o_55_319 (P : Params) : Obj := ⟨(.type "code"), none, (.fields ⟨(([(.str "_law_tens" 587), (.str "_law_tens" 588), (.str "/claim/cut.py" 589), (.int (181) 0), (.int (1) 0), (.int (0) 0), (.int (0) 0), (.int (3) 0), (.ref 314), (.bool true), (.int (181) 0), (.ref 315)] : List Value) ++ ([.none, (.ref 316), (.ref 317), (.ref 318), (.int (591) 0), (.int (181) 0), (.str "/claim/cut.py" 592)] : List Value))⟩), ⟨[]⟩⟩
def o_55_320 (P : Params) : Obj := ⟨(.type "function"), none, (.func ⟨"_law_tens", "_law_tens", defArgs (top 43), .stmts (defBody (top 43)), defScope (top 43), 3, [], .none, .none, .none, (.str "law_tenwhole_k92_whole_ratios_and_integers" 560), none, (.ref 319), .none, 0⟩), ⟨[]⟩⟩
def o_55_321 (P : Params) : Obj := ⟨(.type "tuple"), none, (.seq ⟨([] : List Value)⟩ 0), ⟨[]⟩⟩
def o_55_322 (P : Params) : Obj := ⟨.none, none, (.fields ⟨([] : List Value)⟩), ⟨[]⟩⟩
def o_55_323 (P : Params) : Obj := ⟨(.type "tuple"), none, (.seq ⟨(([(.str "_law_well_here" 597), (.str "_law_most" 598), (.str "_law_way" 599), (.str "_law_text" 600), (.str "_law_turn" 601)] : List Value))⟩ 0), ⟨[]⟩⟩
def o_55_324 (P : Params) : Obj := ⟨(.type "tuple"), none, (.seq ⟨([] : List Value)⟩ 0), ⟨[]⟩⟩
def o_55_325 (P : Params) : Obj := ⟨.none, none, (.func ⟨"_law_whole", "_law_whole", defArgs (top 44), .stmts (defBody (top 44)), defScope (top 44), 0, [], .none, .none, .none, .none, none, .none, .none, 0⟩), ⟨[]⟩⟩
def o_55_326 (P : Params) : Obj := ⟨(.type "code"), none, (.fields ⟨(([(.str "_law_whole" 594), (.str "_law_whole" 595), (.str "/claim/cut.py" 596), (.int (183) 0), (.int (2) 0), (.int (0) 0), (.int (0) 0), (.int (3) 0), (.ref 321), (.bool true), (.int (181) 0), (.ref 322)] : List Value) ++ ([.none, (.ref 323), (.ref 324), (.ref 325), (.int (602) 0), (.int (183) 0), (.str "/claim/cut.py" 603)] : List Value))⟩), ⟨[]⟩⟩
def o_55_327 (P : Params) : Obj := ⟨(.type "function"), none, (.func ⟨"_law_whole", "_law_whole", defArgs (top 44), .stmts (defBody (top 44)), defScope (top 44), 3, [], .none, .none, .none, (.str "law_tenwhole_k92_whole_ratios_and_integers" 560), none, (.ref 326), .none, 0⟩), ⟨[]⟩⟩
def o_55_328 (P : Params) : Obj := ⟨(.type "tuple"), none, (.seq ⟨([] : List Value)⟩ 0), ⟨[]⟩⟩
def o_55_329 (P : Params) : Obj := ⟨.none, none, (.fields ⟨([] : List Value)⟩), ⟨[]⟩⟩
def o_55_330 (P : Params) : Obj := ⟨(.type "tuple"), none, (.seq ⟨(([(.str "_law_number_here" 608)] : List Value))⟩ 0), ⟨[]⟩⟩
def o_55_331 (P : Params) : Obj := ⟨(.type "tuple"), none, (.seq ⟨([] : List Value)⟩ 0), ⟨[]⟩⟩
def o_55_332 (P : Params) : Obj := ⟨.none, none, (.func ⟨"_law_size", "_law_size", defArgs (top 45), .stmts (defBody (top 45)), defScope (top 45), 0, [], .none, .none, .none, .none, none, .none, .none, 0⟩), ⟨[]⟩⟩
def o_55_333 (P : Params) : Obj := ⟨(.type "code"), none, (.fields ⟨(([(.str "_law_size" 605), (.str "_law_size" 606), (.str "/claim/cut.py" 607), (.int (193) 0), (.int (1) 0), (.int (0) 0), (.int (0) 0), (.int (3) 0), (.ref 328), (.bool true), (.int (181) 0), (.ref 329)] : List Value) ++ ([.none, (.ref 330), (.ref 331), (.ref 332), (.int (609) 0), (.int (193) 0), (.str "/claim/cut.py" 610)] : List Value))⟩), ⟨[]⟩⟩
def o_55_334 (P : Params) : Obj := ⟨(.type "function"), none, (.func ⟨"_law_size", "_law_size", defArgs (top 45), .stmts (defBody (top 45)), defScope (top 45), 3, [], .none, .none, .none, (.str "law_tenwhole_k92_whole_ratios_and_integers" 560), none, (.ref 333), .none, 0⟩), ⟨[]⟩⟩
def o_55_335 (P : Params) : Obj := ⟨(.type "tuple"), none, (.seq ⟨([] : List Value)⟩ 0), ⟨[]⟩⟩
def o_55_336 (P : Params) : Obj := ⟨.none, none, (.fields ⟨([] : List Value)⟩), ⟨[]⟩⟩
def o_55_337 (P : Params) : Obj := ⟨(.type "tuple"), none, (.seq ⟨(([(.str "_law_one" 615), (.str "_law_other" 616), (.str "_law_turn" 617)] : List Value))⟩ 0), ⟨[]⟩⟩
def o_55_338 (P : Params) : Obj := ⟨(.type "tuple"), none, (.seq ⟨([] : List Value)⟩ 0), ⟨[]⟩⟩
def o_55_339 (P : Params) : Obj := ⟨.none, none, (.func ⟨"_law_common", "_law_common", defArgs (top 46), .stmts (defBody (top 46)), defScope (top 46), 0, [], .none, .none, .none, .none, none, .none, .none, 0⟩), ⟨[]⟩⟩
def o_55_340 (P : Params) : Obj := ⟨(.type "code"), none, (.fields ⟨(([(.str "_law_common" 612), (.str "_law_common" 613), (.str "/claim/cut.py" 614), (.int (195) 0), (.int (2) 0), (.int (0) 0), (.int (0) 0), (.int (3) 0), (.ref 335), (.bool true), (.int (181) 0), (.ref 336)] : List Value) ++ ([.none, (.ref 337), (.ref 338), (.ref 339), (.int (618) 0), (.int (195) 0), (.str "/claim/cut.py" 619)] : List Value))⟩), ⟨[]⟩⟩
def o_55_341 (P : Params) : Obj := ⟨(.type "function"), none, (.func ⟨"_law_common", "_law_common", defArgs (top 46), .stmts (defBody (top 46)), defScope (top 46), 3, [], .none, .none, .none, (.str "law_tenwhole_k92_whole_ratios_and_integers" 560), none, (.ref 340), .none, 0⟩), ⟨[]⟩⟩
def o_55_342 (P : Params) : Obj := ⟨(.type "tuple"), none, (.seq ⟨([] : List Value)⟩ 0), ⟨[]⟩⟩
def o_55_343 (P : Params) : Obj := ⟨.none, none, (.fields ⟨([] : List Value)⟩), ⟨[]⟩⟩
def o_55_344 (P : Params) : Obj := ⟨(.type "tuple"), none, (.seq ⟨(([(.str "_law_a" 624), (.str "_law_found" 625), (.str "_law_side" 626), (.str "_law_top" 627), (.str "_law_bottom" 628)] : List Value))⟩ 0), ⟨[]⟩⟩
def o_55_345 (P : Params) : Obj := ⟨(.type "tuple"), none, (.seq ⟨([] : List Value)⟩ 0), ⟨[]⟩⟩
def o_55_346 (P : Params) : Obj := ⟨.none, none, (.func ⟨"_law_ratio_right", "_law_ratio_right", defArgs (top 47), .stmts (defBody (top 47)), defScope (top 47), 0, [], .none, .none, .none, .none, none, .none, .none, 0⟩), ⟨[]⟩⟩
def o_55_347 (P : Params) : Obj := ⟨(.type "code"), none, (.fields ⟨(([(.str "_law_ratio_right" 621), (.str "_law_ratio_right" 622), (.str "/claim/cut.py" 623), (.int (202) 0), (.int (1) 0), (.int (0) 0), (.int (0) 0), (.int (3) 0), (.ref 342), (.bool true), (.int (181) 0), (.ref 343)] : List Value) ++ ([.none, (.ref 344), (.ref 345), (.ref 346), (.int (629) 0), (.int (202) 0), (.str "/claim/cut.py" 630)] : List Value))⟩), ⟨[]⟩⟩
def o_55_348 (P : Params) : Obj := ⟨(.type "function"), none, (.func ⟨"_law_ratio_right", "_law_ratio_right", defArgs (top 47), .stmts (defBody (top 47)), defScope (top 47), 3, [], .none, .none, .none, (.str "law_tenwhole_k92_whole_ratios_and_integers" 560), none, (.ref 347), .none, 0⟩), ⟨[]⟩⟩
def o_55_349 (P : Params) : Obj := ⟨(.type "tuple"), none, (.seq ⟨([] : List Value)⟩ 0), ⟨[]⟩⟩
def o_55_350 (P : Params) : Obj := ⟨.none, none, (.fields ⟨([] : List Value)⟩), ⟨[]⟩⟩
def o_55_351 (P : Params) : Obj := ⟨(.type "tuple"), none, (.seq ⟨(([(.str "_law_a" 635), (.str "_law_top" 636), (.str "_law_bottom" 637), (.str "_law_low" 638), (.str "_law_high" 639), (.str "_law_cut" 640), (.str "_law_near" 641), (.str "_law_apart" 642)] : List Value))⟩ 0), ⟨[]⟩⟩
def o_55_352 (P : Params) : Obj := ⟨(.type "tuple"), none, (.seq ⟨([] : List Value)⟩ 0), ⟨[]⟩⟩
def o_55_353 (P : Params) : Obj := ⟨.none, none, (.func ⟨"_law_integers_right", "_law_integers_right", defArgs (top 48), .stmts (defBody (top 48)), defScope (top 48), 0, [], .none, .none, .none, .none, none, .none, .none, 0⟩), ⟨[]⟩⟩
def o_55_354 (P : Params) : Obj := ⟨(.type "code"), none, (.fields ⟨(([(.str "_law_integers_right" 632), (.str "_law_integers_right" 633), (.str "/claim/cut.py" 634), (.int (209) 0), (.int (3) 0), (.int (0) 0), (.int (0) 0), (.int (3) 0), (.ref 349), (.bool true), (.int (181) 0), (.ref 350)] : List Value) ++ ([.none, (.ref 351), (.ref 352), (.ref 353), (.int (643) 0), (.int (209) 0), (.str "/claim/cut.py" 644)] : List Value))⟩), ⟨[]⟩⟩
def o_55_355 (P : Params) : Obj := ⟨(.type "function"), none, (.func ⟨"_law_integers_right", "_law_integers_right", defArgs (top 48), .stmts (defBody (top 48)), defScope (top 48), 3, [], .none, .none, .none, (.str "law_tenwhole_k92_whole_ratios_and_integers" 560), none, (.ref 354), .none, 0⟩), ⟨[]⟩⟩
def o_55_356 (P : Params) : Obj := ⟨(.type "tuple"), none, (.seq ⟨([] : List Value)⟩ 0), ⟨[]⟩⟩
def o_55_357 (P : Params) : Obj := ⟨.none, none, (.fields ⟨([] : List Value)⟩), ⟨[]⟩⟩
def o_55_358 (P : Params) : Obj := ⟨(.type "tuple"), none, (.seq ⟨(([(.str "_law_a" 649), (.str "_law_row" 650), (.str "_law_due" 651), (.str "_law_turn" 652), (.str "_law_twin" 653), (.str "_law_found" 654), (.str "_law_ask" 655)] : List Value))⟩ 0), ⟨[]⟩⟩
def o_55_359 (P : Params) : Obj := ⟨(.type "tuple"), none, (.seq ⟨([] : List Value)⟩ 0), ⟨[]⟩⟩
def o_55_360 (P : Params) : Obj := ⟨.none, none, (.func ⟨"_law_stays", "_law_stays", defArgs (top 49), .stmts (defBody (top 49)), defScope (top 49), 0, [], .none, .none, .none, .none, none, .none, .none, 0⟩), ⟨[]⟩⟩
def o_55_361 (P : Params) : Obj := ⟨(.type "code"), none, (.fields ⟨(([(.str "_law_stays" 646), (.str "_law_stays" 647), (.str "/claim/cut.py" 648), (.int (217) 0), (.int (1) 0), (.int (0) 0), (.int (0) 0), (.int (3) 0), (.ref 356), (.bool true), (.int (181) 0), (.ref 357)] : List Value) ++ ([.none, (.ref 358), (.ref 359), (.ref 360), (.int (656) 0), (.int (217) 0), (.str "/claim/cut.py" 657)] : List Value))⟩), ⟨[]⟩⟩
def o_55_362 (P : Params) : Obj := ⟨(.type "function"), none, (.func ⟨"_law_stays", "_law_stays", defArgs (top 49), .stmts (defBody (top 49)), defScope (top 49), 3, [], .none, .none, .none, (.str "law_tenwhole_k92_whole_ratios_and_integers" 560), none, (.ref 361), .none, 0⟩), ⟨[]⟩⟩
def o_55_363 (P : Params) : Obj := ⟨(.type "tuple"), none, (.seq ⟨([] : List Value)⟩ 0), ⟨[]⟩⟩
def o_55_364 (P : Params) : Obj := ⟨.none, none, (.fields ⟨([] : List Value)⟩), ⟨[]⟩⟩
def o_55_365 (P : Params) : Obj := ⟨(.type "tuple"), none, (.seq ⟨(([(.str "_law_a" 662), (.str "_law_due" 663)] : List Value))⟩ 0), ⟨[]⟩⟩
def o_55_366 (P : Params) : Obj := ⟨(.type "tuple"), none, (.seq ⟨([] : List Value)⟩ 0), ⟨[]⟩⟩
def o_55_367 (P : Params) : Obj := ⟨.none, none, (.func ⟨"_law_tiny_right", "_law_tiny_right", defArgs (top 50), .stmts (defBody (top 50)), defScope (top 50), 0, [], .none, .none, .none, .none, none, .none, .none, 0⟩), ⟨[]⟩⟩
def o_55_368 (P : Params) : Obj := ⟨(.type "code"), none, (.fields ⟨(([(.str "_law_tiny_right" 659), (.str "_law_tiny_right" 660), (.str "/claim/cut.py" 661), (.int (227) 0), (.int (1) 0), (.int (0) 0), (.int (0) 0), (.int (3) 0), (.ref 363), (.bool true), (.int (181) 0), (.ref 364)] : List Value) ++ ([.none, (.ref 365), (.ref 366), (.ref 367), (.int (664) 0), (.int (227) 0), (.str "/claim/cut.py" 665)] : List Value))⟩), ⟨[]⟩⟩
def o_55_369 (P : Params) : Obj := ⟨(.type "function"), none, (.func ⟨"_law_tiny_right", "_law_tiny_right", defArgs (top 50), .stmts (defBody (top 50)), defScope (top 50), 3, [], .none, .none, .none, (.str "law_tenwhole_k92_whole_ratios_and_integers" 560), none, (.ref 368), .none, 0⟩), ⟨[]⟩⟩
def o_55_370 (P : Params) : Obj := ⟨(.type "tuple"), none, (.seq ⟨([] : List Value)⟩ 0), ⟨[]⟩⟩
def o_55_371 (P : Params) : Obj := ⟨.none, none, (.fields ⟨([] : List Value)⟩), ⟨[]⟩⟩
def o_55_372 (P : Params) : Obj := ⟨(.type "tuple"), none, (.seq ⟨(([(.str "_law_well_here" 670), (.str "_law_side" 671), (.str "_law_zero" 672)] : List Value))⟩ 0), ⟨[]⟩⟩
def o_55_373 (P : Params) : Obj := ⟨(.type "tuple"), none, (.seq ⟨([] : List Value)⟩ 0), ⟨[]⟩⟩
def o_55_374 (P : Params) : Obj := ⟨.none, none, (.func ⟨"_law_zero_right", "_law_zero_right", defArgs (top 51), .stmts (defBody (top 51)), defScope (top 51), 0, [], .none, .none, .none, .none, none, .none, .none, 0⟩), ⟨[]⟩⟩
def o_55_375 (P : Params) : Obj := ⟨(.type "code"), none, (.fields ⟨(([(.str "_law_zero_right" 667), (.str "_law_zero_right" 668), (.str "/claim/cut.py" 669), (.int (230) 0), (.int (2) 0), (.int (0) 0), (.int (0) 0), (.int (3) 0), (.ref 370), (.bool true), (.int (181) 0), (.ref 371)] : List Value) ++ ([.none, (.ref 372), (.ref 373), (.ref 374), (.int (673) 0), (.int (230) 0), (.str "/claim/cut.py" 674)] : List Value))⟩), ⟨[]⟩⟩
def o_55_376 (P : Params) : Obj := ⟨(.type "function"), none, (.func ⟨"_law_zero_right", "_law_zero_right", defArgs (top 51), .stmts (defBody (top 51)), defScope (top 51), 3, [], .none, .none, .none, (.str "law_tenwhole_k92_whole_ratios_and_integers" 560), none, (.ref 375), .none, 0⟩), ⟨[]⟩⟩
def o_55_377 (P : Params) : Obj := ⟨(.type "tuple"), none, (.seq ⟨([] : List Value)⟩ 0), ⟨[]⟩⟩
def o_55_378 (P : Params) : Obj := ⟨.none, none, (.fields ⟨([] : List Value)⟩), ⟨[]⟩⟩
def o_55_379 (P : Params) : Obj := ⟨(.type "tuple"), none, (.seq ⟨(([(.str "_law_well_here" 679), (.str "_law_number_here" 680), (.str "_law_way" 681), (.str "_law_many" 682), (.str "_law_tail" 683)] : List Value))⟩ 0), ⟨[]⟩⟩
def o_55_380 (P : Params) : Obj := ⟨(.type "tuple"), none, (.seq ⟨([] : List Value)⟩ 0), ⟨[]⟩⟩
def o_55_381 (P : Params) : Obj := ⟨.none, none, (.func ⟨"_law_number", "_law_number", defArgs (top 52), .stmts (defBody (top 52)), defScope (top 52), 0, [], .none, .none, .none, .none, none, .none, .none, 0⟩), ⟨[]⟩⟩
def o_55_382 (P : Params) : Obj := ⟨(.type "code"), none, (.fields ⟨(([(.str "_law_number" 676), (.str "_law_number" 677), (.str "/claim/cut.py" 678), (.int (233) 0), (.int (1) 0), (.int (0) 0), (.int (0) 0), (.int (3) 0), (.ref 377), (.bool true), (.int (181) 0), (.ref 378)] : List Value) ++ ([.none, (.ref 379), (.ref 380), (.ref 381), (.int (684) 0), (.int (233) 0), (.str "/claim/cut.py" 685)] : List Value))⟩), ⟨[]⟩⟩
def o_55_383 (P : Params) : Obj := ⟨(.type "function"), none, (.func ⟨"_law_number", "_law_number", defArgs (top 52), .stmts (defBody (top 52)), defScope (top 52), 3, [], .none, .none, .none, (.str "law_tenwhole_k92_whole_ratios_and_integers" 560), none, (.ref 382), .none, 0⟩), ⟨[]⟩⟩
def o_55_384 (P : Params) : Obj := ⟨(.type "tuple"), none, (.seq ⟨([] : List Value)⟩ 0), ⟨[]⟩⟩
def o_55_385 (P : Params) : Obj := ⟨.none, none, (.fields ⟨([] : List Value)⟩), ⟨[]⟩⟩
def o_55_386 (P : Params) : Obj := ⟨(.type "tuple"), none, (.seq ⟨(([(.str "_law_a" 690)] : List Value))⟩ 0), ⟨[]⟩⟩
def o_55_387 (P : Params) : Obj := ⟨(.type "tuple"), none, (.seq ⟨([] : List Value)⟩ 0), ⟨[]⟩⟩
def o_55_388 (P : Params) : Obj := ⟨.none, none, (.func ⟨"_law_long_right", "_law_long_right", defArgs (top 53), .stmts (defBody (top 53)), defScope (top 53), 0, [], .none, .none, .none, .none, none, .none, .none, 0⟩), ⟨[]⟩⟩
def o_55_389 (P : Params) : Obj := ⟨(.type "code"), none, (.fields ⟨(([(.str "_law_long_right" 687), (.str "_law_long_right" 688), (.str "/claim/cut.py" 689), (.int (242) 0), (.int (0) 0), (.int (0) 0), (.int (0) 0), (.int (3) 0), (.ref 384), (.bool true), (.int (181) 0), (.ref 385)] : List Value) ++ ([.none, (.ref 386), (.ref 387), (.ref 388), (.int (691) 0), (.int (242) 0), (.str "/claim/cut.py" 692)] : List Value))⟩), ⟨[]⟩⟩
def o_55_390 (P : Params) : Obj := ⟨(.type "function"), none, (.func ⟨"_law_long_right", "_law_long_right", defArgs (top 53), .stmts (defBody (top 53)), defScope (top 53), 3, [], .none, .none, .none, (.str "law_tenwhole_k92_whole_ratios_and_integers" 560), none, (.ref 389), .none, 0⟩), ⟨[]⟩⟩
def o_55_391 (P : Params) : Obj := ⟨(.type "tuple"), none, (.seq ⟨([] : List Value)⟩ 0), ⟨[]⟩⟩
def o_55_392 (P : Params) : Obj := ⟨.none, none, (.fields ⟨([] : List Value)⟩), ⟨[]⟩⟩
def o_55_393 (P : Params) : Obj := ⟨(.type "tuple"), none, (.seq ⟨(([(.str "_law_script" 697), (.str "_law_cell" 698), (.str "_law_well_here" 699), (.str "_law_turn" 700), (.str "_law_a" 701), (.str "_law_side" 702), (.str "_law_top" 703), (.str "_law_bottom" 704), (.str "_law_turned" 705), (.str "_law_tail" 706)] : List Value))⟩ 0), ⟨[]⟩⟩
def o_55_394 (P : Params) : Obj := ⟨(.type "tuple"), none, (.seq ⟨([] : List Value)⟩ 0), ⟨[]⟩⟩
def o_55_395 (P : Params) : Obj := ⟨.none, none, (.func ⟨"law", "law", defArgs (top 54), .stmts (defBody (top 54)), defScope (top 54), 0, [], .none, .none, .none, .none, none, .none, .none, 0⟩), ⟨[]⟩⟩
def o_55_396 (P : Params) : Obj := ⟨(.type "code"), none, (.fields ⟨(([(.str "law" 694), (.str "law" 695), (.str "/claim/cut.py" 696), (.int (245) 0), (.int (1) 0), (.int (0) 0), (.int (0) 0), (.int (3) 0), (.ref 391), (.bool true), (.int (181) 0), (.ref 392)] : List Value) ++ ([.none, (.ref 393), (.ref 394), (.ref 395), (.int (707) 0), (.int (245) 0), (.str "/claim/cut.py" 708)] : List Value))⟩), ⟨[]⟩⟩
def o_55_397 (P : Params) : Obj := ⟨(.type "function"), none, (.func ⟨"law", "law", defArgs (top 54), .stmts (defBody (top 54)), defScope (top 54), 3, [], .none, .none, .none, (.str "law_tenwhole_k92_whole_ratios_and_integers" 560), none, (.ref 396), .none, 0⟩), ⟨[]⟩⟩
def l_55 (P : Params) : List (Nat × Obj) := ([(3, o_55_3 P), (12, o_55_12 P), (139, o_55_139 P), (140, o_55_140 P), (141, o_55_141 P), (142, o_55_142 P), (143, o_55_143 P), (144, o_55_144 P), (145, o_55_145 P), (146, o_55_146 P), (147, o_55_147 P), (148, o_55_148 P), (149, o_55_149 P), (150, o_55_150 P), (151, o_55_151 P), (152, o_55_152 P), (153, o_55_153 P), (154, o_55_154 P), (155, o_55_155 P), (156, o_55_156 P), (157, o_55_157 P), (158, o_55_158 P), (159, o_55_159 P), (160, o_55_160 P), (161, o_55_161 P)] : List (Nat × Obj)) ++ ([(162, o_55_162 P), (163, o_55_163 P), (164, o_55_164 P), (165, o_55_165 P), (166, o_55_166 P), (167, o_55_167 P), (168, o_55_168 P), (169, o_55_169 P), (170, o_55_170 P), (171, o_55_171 P), (172, o_55_172 P), (173, o_55_173 P), (174, o_55_174 P), (175, o_55_175 P), (176, o_55_176 P), (177, o_55_177 P), (178, o_55_178 P), (179, o_55_179 P), (180, o_55_180 P), (181, o_55_181 P), (182, o_55_182 P), (183, o_55_183 P), (184, o_55_184 P), (185, o_55_185 P), (186, o_55_186 P)] : List (Nat × Obj)) ++ ([(187, o_55_187 P), (188, o_55_188 P), (189, o_55_189 P), (190, o_55_190 P), (191, o_55_191 P), (192, o_55_192 P), (193, o_55_193 P), (194, o_55_194 P), (195, o_55_195 P), (196, o_55_196 P), (197, o_55_197 P), (198, o_55_198 P), (199, o_55_199 P), (200, o_55_200 P), (201, o_55_201 P), (202, o_55_202 P), (203, o_55_203 P), (204, o_55_204 P), (205, o_55_205 P), (206, o_55_206 P), (207, o_55_207 P), (208, o_55_208 P), (209, o_55_209 P), (210, o_55_210 P), (211, o_55_211 P)] : List (Nat × Obj)) ++ ([(212, o_55_212 P), (213, o_55_213 P), (214, o_55_214 P), (215, o_55_215 P), (216, o_55_216 P), (217, o_55_217 P), (218, o_55_218 P), (219, o_55_219 P), (220, o_55_220 P), (221, o_55_221 P), (222, o_55_222 P), (223, o_55_223 P), (224, o_55_224 P), (225, o_55_225 P), (226, o_55_226 P), (227, o_55_227 P), (228, o_55_228 P), (229, o_55_229 P), (230, o_55_230 P), (231, o_55_231 P), (232, o_55_232 P), (233, o_55_233 P), (234, o_55_234 P), (235, o_55_235 P), (236, o_55_236 P)] : List (Nat × Obj)) ++ ([(237, o_55_237 P), (238, o_55_238 P), (239, o_55_239 P), (240, o_55_240 P), (241, o_55_241 P), (242, o_55_242 P), (243, o_55_243 P), (244, o_55_244 P), (245, o_55_245 P), (246, o_55_246 P), (247, o_55_247 P), (248, o_55_248 P), (249, o_55_249 P), (250, o_55_250 P), (251, o_55_251 P), (252, o_55_252 P), (253, o_55_253 P), (254, o_55_254 P), (255, o_55_255 P), (256, o_55_256 P), (257, o_55_257 P), (258, o_55_258 P), (259, o_55_259 P), (260, o_55_260 P), (261, o_55_261 P)] : List (Nat × Obj)) ++ ([(262, o_55_262 P), (263, o_55_263 P), (264, o_55_264 P), (265, o_55_265 P), (266, o_55_266 P), (267, o_55_267 P), (268, o_55_268 P), (269, o_55_269 P), (270, o_55_270 P), (271, o_55_271 P), (272, o_55_272 P), (273, o_55_273 P), (274, o_55_274 P), (275, o_55_275 P), (276, o_55_276 P), (277, o_55_277 P), (278, o_55_278 P), (279, o_55_279 P), (280, o_55_280 P), (281, o_55_281 P), (282, o_55_282 P), (283, o_55_283 P), (284, o_55_284 P), (285, o_55_285 P), (286, o_55_286 P)] : List (Nat × Obj)) ++ ([(287, o_55_287 P), (288, o_55_288 P), (289, o_55_289 P), (290, o_55_290 P), (291, o_55_291 P), (292, o_55_292 P), (293, o_55_293 P), (294, o_55_294 P), (295, o_55_295 P), (296, o_55_296 P), (297, o_55_297 P), (298, o_55_298 P), (299, o_55_299 P), (300, o_55_300 P), (301, o_55_301 P), (302, o_55_302 P), (303, o_55_303 P), (304, o_55_304 P), (305, o_55_305 P), (306, o_55_306 P), (307, o_55_307 P), (308, o_55_308 P), (309, o_55_309 P), (310, o_55_310 P), (311, o_55_311 P)] : List (Nat × Obj)) ++ ([(312, o_55_312 P), (313, o_55_313 P), (314, o_55_314 P), (315, o_55_315 P), (316, o_55_316 P), (317, o_55_317 P), (318, o_55_318 P), (319, o_55_319 P), (320, o_55_320 P), (321, o_55_321 P), (322, o_55_322 P), (323, o_55_323 P), (324, o_55_324 P), (325, o_55_325 P), (326, o_55_326 P), (327, o_55_327 P), (328, o_55_328 P), (329, o_55_329 P), (330, o_55_330 P), (331, o_55_331 P), (332, o_55_332 P), (333, o_55_333 P), (334, o_55_334 P), (335, o_55_335 P), (336, o_55_336 P)] : List (Nat × Obj)) ++ ([(337, o_55_337 P), (338, o_55_338 P), (339, o_55_339 P), (340, o_55_340 P), (341, o_55_341 P), (342, o_55_342 P), (343, o_55_343 P), (344, o_55_344 P), (345, o_55_345 P), (346, o_55_346 P), (347, o_55_347 P), (348, o_55_348 P), (349, o_55_349 P), (350, o_55_350 P), (351, o_55_351 P), (352, o_55_352 P), (353, o_55_353 P), (354, o_55_354 P), (355, o_55_355 P), (356, o_55_356 P), (357, o_55_357 P), (358, o_55_358 P), (359, o_55_359 P), (360, o_55_360 P), (361, o_55_361 P)] : List (Nat × Obj)) ++ ([(362, o_55_362 P), (363, o_55_363 P), (364, o_55_364 P), (365, o_55_365 P), (366, o_55_366 P), (367, o_55_367 P), (368, o_55_368 P), (369, o_55_369 P), (370, o_55_370 P), (371, o_55_371 P), (372, o_55_372 P), (373, o_55_373 P), (374, o_55_374 P), (375, o_55_375 P), (376, o_55_376 P), (377, o_55_377 P), (378, o_55_378 P), (379, o_55_379 P), (380, o_55_380 P), (381, o_55_381 P), (382, o_55_382 P), (383, o_55_383 P), (384, o_55_384 P), (385, o_55_385 P), (386, o_55_386 P)] : List (Nat × Obj)) ++ ([(387, o_55_387 P), (388, o_55_388 P), (389, o_55_389 P), (390, o_55_390 P), (391, o_55_391 P), (392, o_55_392 P), (393, o_55_393 P), (394, o_55_394 P), (395, o_55_395 P), (396, o_55_396 P), (397, o_55_397 P)] : List (Nat × Obj))
def t_55 (P : Params) : BT := (insAll (l_55 P) (t_14 P)).getD .nil
def S_55 (w : World) (os : OsState) : SharedT := ⟨t_55 w.params, 398, {}, #[], ⟨0, 0, 0, 0⟩, 710, os⟩
theorem pre_ok (w : World) (os : OsState) : goT (stepQ (denQ tabQ) pr w) 11 an 12 (bootT w os (bt0 w.params, 11)) (topStub pr) = some (S_pre w os, ⟨denQ tabQ cE, cE, ⟨0, 0, 0, 0⟩, [topFrame fq]⟩) := by kernel_rfl
theorem boot_eq (w : World) (os : OsState) : putAll (boot_heap w.params).objs.toList .nil 0 = some (bt0 w.params, 11) := by kernel_rfl
theorem block_ok (w : World) (os : OsState) : segRun treeTable pr w 11 an 1 1 (S_pre w os).abs (blockOf (behindTheImports pr) env cE ⟨0, 0, 0, 0⟩ [topFrame fq]) = some (.next, (S_block w os).abs, cE, ⟨0, 0, 0, 0⟩) := seg_of (by kernel_rfl)
def p_14 : List Stmt := ((behindTheImports pr).drop 0).take 14
theorem seg_14 (w : World) (os : OsState) : segF (stepQ (denQ tabQ) pr w) 11 an 1 1527 (S_block w os) (piecesOf p_14 env cE ⟨0, 0, 0, 0⟩ [topFrame fq]) = some (.next, S_14 w os, cE, ⟨27, 0, 53, 41⟩) := by kernel_rfl
def p_55 : List Stmt := ((behindTheImports pr).drop 14).take 41
theorem seg_55 (w : World) (os : OsState) : segF (stepQ (denQ tabQ) pr w) 11 an 1 1195 (S_14 w os) (piecesOf p_55 env cE ⟨27, 0, 53, 41⟩ [topFrame fq]) = some (.next, S_55 w os, cE, ⟨245, 0, 260, 28⟩) := by kernel_rfl
theorem body_eq : behindTheImports pr = p_14 ++ (p_55 ++ []) := by kernel_rfl
theorem fin_ok (w : World) (os : OsState) : topRun treeTable pr w 11 an 2 (S_55 w os).abs (restOf [] env cE ⟨245, 0, 260, 28⟩ [topFrame fq]) = some (S_55 w os).abs := by kernel_rfl
abbrev total : Nat := 12 + (1 + (1527 + (1195 + 2)))
theorem top_run (w : World) (os : OsState) : topRun treeTable pr w 11 an total ⟨boot_heap w.params, #[], boot_drawn, boot_toks, os⟩ (topStub pr) = some (S_55 w os).abs := by
  refine go_top (pre_of (boot_eq w os) (by rw [denQ_eq, tabQ_eq]; exact pre_ok w os)) (piece_block (env := env) (b := behindTheImports pr) (block_ok w os) ?_)
  rw [body_eq]
  exact piece_app (seg_of (seg_14 w os)) (piece_app (seg_of (seg_55 w os)) (fin_ok w os))
end Ht
end
noncomputable section
namespace Ht
open PySem PySem.W PySem.Calls PyProof.Rows HandSHeadRun Hc Tw L2
def dd_Decimal___init__ : He.DefD := ⟨("Decimal", some "__init__"), "__init__", "Decimal.__init__", defArgs s_Decimal___init__, defBody s_Decimal___init__, defScope s_Decimal___init__, [], []⟩
def dd_Decimal_adjusted : He.DefD := ⟨("Decimal", some "adjusted"), "adjusted", "Decimal.adjusted", defArgs s_Decimal_adjusted, defBody s_Decimal_adjusted, defScope s_Decimal_adjusted, [], []⟩
def dd_Decimal___eq__ : He.DefD := ⟨("Decimal", some "__eq__"), "__eq__", "Decimal.__eq__", defArgs s_Decimal___eq__, defBody s_Decimal___eq__, defScope s_Decimal___eq__, [], []⟩
def dd_is_integer : He.DefD := ⟨("is_integer", none), "is_integer", "is_integer", defArgs s_is_integer, defBody s_is_integer, defScope s_is_integer, [], []⟩
def dd_is_exponent : He.DefD := ⟨("is_exponent", none), "is_exponent", "is_exponent", defArgs s_is_exponent, defBody s_is_exponent, defScope s_is_exponent, [], []⟩
def dd_is_finite : He.DefD := ⟨("is_finite", none), "is_finite", "is_finite", defArgs s_is_finite, defBody s_is_finite, defScope s_is_finite, [], []⟩
def dd_is_infinite : He.DefD := ⟨("is_infinite", none), "is_infinite", "is_infinite", defArgs s_is_infinite, defBody s_is_infinite, defScope s_is_infinite, [], []⟩
def dd_is_nan : He.DefD := ⟨("is_nan", none), "is_nan", "is_nan", defArgs s_is_nan, defBody s_is_nan, defScope s_is_nan, [], []⟩
def dd_decimal_of : He.DefD := ⟨("decimal_of", none), "decimal_of", "decimal_of", defArgs s_decimal_of, defBody s_decimal_of, defScope s_decimal_of, [], []⟩
def dd_tens : He.DefD := ⟨("tens", none), "tens", "tens", defArgs s_tens, defBody s_tens, defScope s_tens, [], []⟩
def dd_count_digits : He.DefD := ⟨("count_digits", none), "count_digits", "count_digits", defArgs s_count_digits, defBody s_count_digits, defScope s_count_digits, [], []⟩
def dd_order_of : He.DefD := ⟨("order_of", none), "order_of", "order_of", defArgs s_order_of, defBody s_order_of, defScope s_order_of, [], []⟩
def dd_side_of : He.DefD := ⟨("side_of", none), "side_of", "side_of", defArgs s_side_of, defBody s_side_of, defScope s_side_of, [], []⟩
def dd_size_order : He.DefD := ⟨("size_order", none), "size_order", "size_order", defArgs s_size_order, defBody s_size_order, defScope s_size_order, [], []⟩
def dd_power_modulo : He.DefD := ⟨("power_modulo", none), "power_modulo", "power_modulo", defArgs s_power_modulo, defBody s_power_modulo, defScope s_power_modulo, [], []⟩
def dd_number_hash : He.DefD := ⟨("number_hash", none), "number_hash", "number_hash", defArgs s_number_hash, defBody s_number_hash, defScope s_number_hash, [], []⟩
def dd_finite_of : He.DefD := ⟨("finite_of", none), "finite_of", "finite_of", defArgs s_finite_of, defBody s_finite_of, defScope s_finite_of, [], []⟩
def dd_common_factor : He.DefD := ⟨("common_factor", none), "common_factor", "common_factor", defArgs s_common_factor, defBody s_common_factor, defScope s_common_factor, [], []⟩
def dd_ratio : He.DefD := ⟨("ratio", none), "ratio", "ratio", defArgs s_ratio, defBody s_ratio, defScope s_ratio, [], []⟩
def dd_cut_whole : He.DefD := ⟨("cut_whole", none), "cut_whole", "cut_whole", defArgs s_cut_whole, defBody s_cut_whole, defScope s_cut_whole, [], []⟩
def dd_with_sign_of : He.DefD := ⟨("with_sign_of", none), "with_sign_of", "with_sign_of", defArgs s_with_sign_of, defBody s_with_sign_of, defScope s_with_sign_of, [], []⟩
def dd_truncated : He.DefD := ⟨("truncated", none), "truncated", "truncated", defArgs s_truncated, defBody s_truncated, defScope s_truncated, [], []⟩
def dd_floored : He.DefD := ⟨("floored", none), "floored", "floored", defArgs s_floored, defBody s_floored, defScope s_floored, [], []⟩
def dd_ceiled : He.DefD := ⟨("ceiled", none), "ceiled", "ceiled", defArgs s_ceiled, defBody s_ceiled, defScope s_ceiled, [], []⟩
def dd_nearest : He.DefD := ⟨("nearest", none), "nearest", "nearest", defArgs s_nearest, defBody s_nearest, defScope s_nearest, [], []⟩
def dd__law_well : He.DefD := ⟨("_law_well", none), "_law_well", "_law_well", defArgs s__law_well, defBody s__law_well, defScope s__law_well, [], []⟩
def dd__law_draw : He.DefD := ⟨("_law_draw", none), "_law_draw", "_law_draw", defArgs s__law_draw, defBody s__law_draw, defScope s__law_draw, [], []⟩
def dd__law_pick : He.DefD := ⟨("_law_pick", none), "_law_pick", "_law_pick", defArgs s__law_pick, defBody s__law_pick, defScope s__law_pick, [], []⟩
def dd__law_tens : He.DefD := ⟨("_law_tens", none), "_law_tens", "_law_tens", defArgs s__law_tens, defBody s__law_tens, defScope s__law_tens, [], []⟩
def dd__law_whole : He.DefD := ⟨("_law_whole", none), "_law_whole", "_law_whole", defArgs s__law_whole, defBody s__law_whole, defScope s__law_whole, [], []⟩
def dd__law_size : He.DefD := ⟨("_law_size", none), "_law_size", "_law_size", defArgs s__law_size, defBody s__law_size, defScope s__law_size, [], []⟩
def dd__law_common : He.DefD := ⟨("_law_common", none), "_law_common", "_law_common", defArgs s__law_common, defBody s__law_common, defScope s__law_common, [], []⟩
def dd__law_ratio_right : He.DefD := ⟨("_law_ratio_right", none), "_law_ratio_right", "_law_ratio_right", defArgs s__law_ratio_right, defBody s__law_ratio_right, defScope s__law_ratio_right, [], []⟩
def dd__law_integers_right : He.DefD := ⟨("_law_integers_right", none), "_law_integers_right", "_law_integers_right", defArgs s__law_integers_right, defBody s__law_integers_right, defScope s__law_integers_right, [], []⟩
def dd__law_stays : He.DefD := ⟨("_law_stays", none), "_law_stays", "_law_stays", defArgs s__law_stays, defBody s__law_stays, defScope s__law_stays, [], []⟩
def dd__law_tiny_right : He.DefD := ⟨("_law_tiny_right", none), "_law_tiny_right", "_law_tiny_right", defArgs s__law_tiny_right, defBody s__law_tiny_right, defScope s__law_tiny_right, [], []⟩
def dd__law_zero_right : He.DefD := ⟨("_law_zero_right", none), "_law_zero_right", "_law_zero_right", defArgs s__law_zero_right, defBody s__law_zero_right, defScope s__law_zero_right, [], []⟩
def dd__law_number : He.DefD := ⟨("_law_number", none), "_law_number", "_law_number", defArgs s__law_number, defBody s__law_number, defScope s__law_number, [], []⟩
def dd__law_long_right : He.DefD := ⟨("_law_long_right", none), "_law_long_right", "_law_long_right", defArgs s__law_long_right, defBody s__law_long_right, defScope s__law_long_right, [], []⟩
def dd_law : He.DefD := ⟨("law", none), "law", "law", defArgs s_law, defBody s_law, defScope s_law, [], []⟩
def fn : List He.DefD := ([dd_Decimal___init__, dd_Decimal_adjusted, dd_Decimal___eq__, dd_is_integer, dd_is_exponent, dd_is_finite, dd_is_infinite, dd_is_nan, dd_decimal_of, dd_tens] : List He.DefD) ++ ([dd_count_digits, dd_order_of, dd_side_of, dd_size_order, dd_power_modulo, dd_number_hash, dd_finite_of, dd_common_factor, dd_ratio, dd_cut_whole] : List He.DefD) ++ ([dd_with_sign_of, dd_truncated, dd_floored, dd_ceiled, dd_nearest, dd__law_well, dd__law_draw, dd__law_pick, dd__law_tens, dd__law_whole] : List He.DefD) ++ ([dd__law_size, dd__law_common, dd__law_ratio_right, dd__law_integers_right, dd__law_stays, dd__law_tiny_right, dd__law_zero_right, dd__law_number, dd__law_long_right, dd_law] : List He.DefD)
def fa : List He.Fa := ([.glo "is_integer", .glo "NoDecimal", .glo "is_exponent", .str "INFINITY" "F", .glo "is_finite", .glo "count_digits", .glo "Decimal", .free "int", .free "abs", .free "isinstance"] : List He.Fa) ++ ([.glo "is_nan", .glo "order_of", .free "bool", .free "str", .str "QUIET" "n", .str "SIGNALING" "N", .glo "NoOperand", .int "GREAT" (10000000000000000000000000000000000000000000000000000000000000000), .int "STEP" (64), .free "len"] : List He.Fa) ++ ([.glo "side_of", .glo "size_order", .glo "is_infinite", .glo "tens", .free "max", .glo "decimal_of", .glo "NoValue", .int "INFINITE_HASH" (314159), .glo "power_modulo", .int "PRIME" (2305843009213693951)] : List He.Fa) ++ ([.glo "TooGreat", .glo "finite_of", .glo "common_factor", .glo "with_sign_of", .glo "cut_whole", .glo "_law_draw", .free "range", .glo "ratio", .free "tuple", .glo "_law_common"] : List He.Fa) ++ ([.glo "_law_tens", .glo "floored", .glo "ceiled", .glo "truncated", .glo "nearest", .glo "number_hash", .glo "_law_pick", .glo "_law_whole", .glo "_law_ratio_right", .glo "_law_well"] : List He.Fa) ++ ([.glo "_law_number", .glo "_law_integers_right", .glo "_law_stays", .glo "_law_size", .glo "_law_tiny_right", .glo "_law_zero_right", .glo "_law_long_right", .glo "law", .cls "Decimal", .noat "Decimal" "sign"] : List He.Fa) ++ ([.noat "Decimal" "coefficient", .noat "Decimal" "exponent", .mkr "Decimal", .meth "Decimal" "adjusted", .meth "Decimal" "__eq__"] : List He.Fa)
def ex_eqf : PySem.W.Frag → Bool := fun K => Tw.eqfB K
def ex_ow_Decimal : PySem.W.Frag → Bool := fun K => ownB K (He.ga K "Decimal")
def ex_dg : PySem.W.Frag → Bool := fun K => Tw.digK K
def ex : List (PySem.W.Frag → Bool) := ([ex_eqf, ex_ow_Decimal, ex_dg] : List (PySem.W.Frag → Bool))
def loose : List PySem.Str := (["_wall", "__name__", "TenError", "NoOperand", "NoDecimal", "NoValue", "TooGreat", "STEP", "GREAT", "INFINITY"] : List PySem.Str) ++ (["QUIET", "SIGNALING", "Decimal", "is_integer", "is_exponent", "is_finite", "is_infinite", "is_nan", "decimal_of", "tens"] : List PySem.Str) ++ (["count_digits", "order_of", "side_of", "size_order", "PRIME", "INFINITE_HASH", "power_modulo", "number_hash", "finite_of", "common_factor"] : List PySem.Str) ++ (["ratio", "cut_whole", "with_sign_of", "truncated", "floored", "ceiled", "nearest", "_law_well", "_law_draw", "_law_pick"] : List PySem.Str) ++ (["_law_tens", "_law_whole", "_law_size", "_law_common", "_law_ratio_right", "_law_integers_right", "_law_stays", "_law_tiny_right", "_law_zero_right", "_law_number"] : List PySem.Str) ++ (["_law_long_right"] : List PySem.Str)
def o_boot_2 (P : Params) : Obj := (boot_heap P).objs.getD 2 ⟨.none, none, .plain, ⟨[]⟩⟩
def ads : List Addr := ([3, 29, 30, 31, 32, 47, 48, 49, 50, 51] : List Addr) ++ ([66, 67, 68, 69, 70, 80, 81, 82, 92, 93] : List Addr) ++ ([94, 109, 110, 116, 117, 123, 124, 130, 131, 132] : List Addr) ++ ([133, 134, 135, 136, 144, 145, 151, 152, 158, 159] : List Addr) ++ ([165, 166, 172, 173, 179, 180, 186, 187, 193, 194] : List Addr) ++ ([200, 201, 207, 208, 214, 215, 221, 222, 228, 229] : List Addr) ++ ([235, 236, 242, 243, 249, 250, 256, 257, 263, 264] : List Addr) ++ ([270, 271, 277, 278, 284, 285, 291, 292, 298, 299] : List Addr) ++ ([305, 306, 312, 313, 319, 320, 326, 327, 333, 334] : List Addr) ++ ([340, 341, 347, 348, 354, 355, 361, 362, 368, 369] : List Addr) ++ ([375, 376, 382, 383, 389, 390, 396, 397, 2] : List Addr)
def Kx (P : Params) : PySem.W.Frag := ([(3, o_55_3 P), (29, o_14_29 P), (30, o_14_30 P), (31, o_14_31 P), (32, o_14_32 P), (47, o_14_47 P), (48, o_14_48 P), (49, o_14_49 P), (50, o_14_50 P), (51, o_14_51 P)] : List (Addr × Obj)) ++ ([(66, o_14_66 P), (67, o_14_67 P), (68, o_14_68 P), (69, o_14_69 P), (70, o_14_70 P), (80, o_14_80 P), (81, o_14_81 P), (82, o_14_82 P), (92, o_14_92 P), (93, o_14_93 P)] : List (Addr × Obj)) ++ ([(94, o_14_94 P), (109, o_14_109 P), (110, o_14_110 P), (116, o_14_116 P), (117, o_14_117 P), (123, o_14_123 P), (124, o_14_124 P), (130, o_14_130 P), (131, o_14_131 P), (132, o_14_132 P)] : List (Addr × Obj)) ++ ([(133, o_14_133 P), (134, o_14_134 P), (135, o_14_135 P), (136, o_14_136 P), (144, o_55_144 P), (145, o_55_145 P), (151, o_55_151 P), (152, o_55_152 P), (158, o_55_158 P), (159, o_55_159 P)] : List (Addr × Obj)) ++ ([(165, o_55_165 P), (166, o_55_166 P), (172, o_55_172 P), (173, o_55_173 P), (179, o_55_179 P), (180, o_55_180 P), (186, o_55_186 P), (187, o_55_187 P), (193, o_55_193 P), (194, o_55_194 P)] : List (Addr × Obj)) ++ ([(200, o_55_200 P), (201, o_55_201 P), (207, o_55_207 P), (208, o_55_208 P), (214, o_55_214 P), (215, o_55_215 P), (221, o_55_221 P), (222, o_55_222 P), (228, o_55_228 P), (229, o_55_229 P)] : List (Addr × Obj)) ++ ([(235, o_55_235 P), (236, o_55_236 P), (242, o_55_242 P), (243, o_55_243 P), (249, o_55_249 P), (250, o_55_250 P), (256, o_55_256 P), (257, o_55_257 P), (263, o_55_263 P), (264, o_55_264 P)] : List (Addr × Obj)) ++ ([(270, o_55_270 P), (271, o_55_271 P), (277, o_55_277 P), (278, o_55_278 P), (284, o_55_284 P), (285, o_55_285 P), (291, o_55_291 P), (292, o_55_292 P), (298, o_55_298 P), (299, o_55_299 P)] : List (Addr × Obj)) ++ ([(305, o_55_305 P), (306, o_55_306 P), (312, o_55_312 P), (313, o_55_313 P), (319, o_55_319 P), (320, o_55_320 P), (326, o_55_326 P), (327, o_55_327 P), (333, o_55_333 P), (334, o_55_334 P)] : List (Addr × Obj)) ++ ([(340, o_55_340 P), (341, o_55_341 P), (347, o_55_347 P), (348, o_55_348 P), (354, o_55_354 P), (355, o_55_355 P), (361, o_55_361 P), (362, o_55_362 P), (368, o_55_368 P), (369, o_55_369 P)] : List (Addr × Obj)) ++ ([(375, o_55_375 P), (376, o_55_376 P), (382, o_55_382 P), (383, o_55_383 P), (389, o_55_389 P), (390, o_55_390 P), (396, o_55_396 P), (397, o_55_397 P), (2, o_boot_2 P)] : List (Addr × Obj))
abbrev tcx : PySem.TablesWhole.Ctx := ⟨pr.main.scope, [], [], [], none⟩
def b_0 : List Stmt := (pr.main.body.drop 0).take 45
theorem tb_0 : PySem.TablesWhole.wSs PySem.TablesWhole.holds pr.main.scope tcx pr.main.scope b_0 = true := by kernel_rfl
def b_45 : List Stmt := (pr.main.body.drop 45).take 10
theorem tb_45 : PySem.TablesWhole.wSs PySem.TablesWhole.holds pr.main.scope tcx pr.main.scope b_45 = true := by kernel_rfl
theorem tb_no : PySem.TablesWhole.noTwice pr.main.scope = true := by kernel_rfl
theorem tb_told : PySem.TablesWhole.wSs PySem.TablesWhole.gather pr.main.scope tcx pr.main.scope pr.main.body = [] := by kernel_rfl
theorem tb_cat : pr.main.body = b_0 ++ (b_45) := by kernel_rfl
theorem tb_all : PySem.TablesWhole.wSs PySem.TablesWhole.holds pr.main.scope tcx pr.main.scope pr.main.body = true := by
  rw [tb_cat]
  simp only [Tb.wSs_app, tb_0, tb_45, Bool.and_self]
theorem bare_ok : pr.bare := ⟨rfl, rfl, rfl, rfl, rfl, Tb.tw_of tb_no tb_told tb_all rfl rfl rfl⟩
theorem kx (w : World) (os : OsState) : He.frG (getT (S_55 w os)) ads = Kx w.params := by kernel_rfl
theorem kf (P : Params) : He.obsD fa fn (Kx P) = He.valD fn := by kernel_rfl
theorem ke (P : Params) : (ex.all fun f => f (Kx P)) = true := by kernel_rfl
abbrev R : PySem.W.OpenRow := PySem.W.OpenLaw.row PySem.Challenge.rw_tenwhole_k92_whole_ratios_and_integers
abbrev hk : PySem.W.Hook := hookX ads fa fn ex
theorem looks (w : World) (os : OsState) : looksF R.prog (boot_heap w.params) (S_55 w os).abs = true := by kernel_rfl
theorem seen (w : World) (os : OsState) : openSeen (PySem.W.view R.prog [54]) loose (importedModules R.prog.main.body) (fun s => xlAt (PySem.W.view R.prog [54]) [] s && recOk R.toRowW.records s) true (S_55 w os).abs = openGood (PySem.W.view R.prog [54]) loose := by
  rw [seenQ_eq]
  kernel_rfl
theorem size_eq (w : World) : (boot_heap w.params).objs.size = 11 := by kernel_rfl
theorem ann_eq (w : World) : bootAnn w = an := by kernel_rfl
theorem run (w : World) (os : OsState) : ∃ s : Shared, topRun treeTable R.prog w (boot_heap w.params).objs.size (bootAnn w) total ⟨boot_heap w.params, #[], boot_drawn, boot_toks, os⟩ (topStub R.prog) = some s ∧
    looksF R.prog (boot_heap w.params) s = true ∧ openSeen (PySem.W.view R.prog [54]) loose (importedModules R.prog.main.body) (fun s => xlAt (PySem.W.view R.prog [54]) [] s && recOk R.toRowW.records s) true s = openGood (PySem.W.view R.prog [54]) loose ∧ hk.obs s = hk.val w :=
  ⟨(S_55 w os).abs, by rw [size_eq, ann_eq]; exact top_run w os, looks w os, seen w os, hookX_obs (kx w os) (kf w.params) (ke w.params)⟩
theorem tx_of {K : PySem.W.Frag} {h : Heap} {mg : Str → Option Value} (X : K.In h) (G : h.Ns mainGlobals mg) (c : He.SaysD fa fn K) (e : (ex.all fun f => f K) = true) : Tx K mg where
  g_is_integer := He.glo_ok X G (c.fact 0 (f := .glo "is_integer") rfl)
  g_NoDecimal := He.glo_ok X G (c.fact 1 (f := .glo "NoDecimal") rfl)
  g_is_exponent := He.glo_ok X G (c.fact 2 (f := .glo "is_exponent") rfl)
  c_INFINITY := He.str_ok X G (c.fact 3 (f := .str "INFINITY" "F") rfl)
  g_is_finite := He.glo_ok X G (c.fact 4 (f := .glo "is_finite") rfl)
  g_count_digits := He.glo_ok X G (c.fact 5 (f := .glo "count_digits") rfl)
  g_Decimal := He.glo_ok X G (c.fact 6 (f := .glo "Decimal") rfl)
  n_int := He.free_ok X G (c.fact 7 (f := .free "int") rfl)
  n_abs := He.free_ok X G (c.fact 8 (f := .free "abs") rfl)
  n_isinstance := He.free_ok X G (c.fact 9 (f := .free "isinstance") rfl)
  g_is_nan := He.glo_ok X G (c.fact 10 (f := .glo "is_nan") rfl)
  g_order_of := He.glo_ok X G (c.fact 11 (f := .glo "order_of") rfl)
  n_bool := He.free_ok X G (c.fact 12 (f := .free "bool") rfl)
  n_str := He.free_ok X G (c.fact 13 (f := .free "str") rfl)
  c_QUIET := He.str_ok X G (c.fact 14 (f := .str "QUIET" "n") rfl)
  c_SIGNALING := He.str_ok X G (c.fact 15 (f := .str "SIGNALING" "N") rfl)
  g_NoOperand := He.glo_ok X G (c.fact 16 (f := .glo "NoOperand") rfl)
  c_GREAT := He.int_ok X G (c.fact 17 (f := .int "GREAT" (10000000000000000000000000000000000000000000000000000000000000000)) rfl)
  c_STEP := He.int_ok X G (c.fact 18 (f := .int "STEP" (64)) rfl)
  n_len := He.free_ok X G (c.fact 19 (f := .free "len") rfl)
  g_side_of := He.glo_ok X G (c.fact 20 (f := .glo "side_of") rfl)
  g_size_order := He.glo_ok X G (c.fact 21 (f := .glo "size_order") rfl)
  g_is_infinite := He.glo_ok X G (c.fact 22 (f := .glo "is_infinite") rfl)
  g_tens := He.glo_ok X G (c.fact 23 (f := .glo "tens") rfl)
  n_max := He.free_ok X G (c.fact 24 (f := .free "max") rfl)
  g_decimal_of := He.glo_ok X G (c.fact 25 (f := .glo "decimal_of") rfl)
  g_NoValue := He.glo_ok X G (c.fact 26 (f := .glo "NoValue") rfl)
  c_INFINITE_HASH := He.int_ok X G (c.fact 27 (f := .int "INFINITE_HASH" (314159)) rfl)
  g_power_modulo := He.glo_ok X G (c.fact 28 (f := .glo "power_modulo") rfl)
  c_PRIME := He.int_ok X G (c.fact 29 (f := .int "PRIME" (2305843009213693951)) rfl)
  g_TooGreat := He.glo_ok X G (c.fact 30 (f := .glo "TooGreat") rfl)
  g_finite_of := He.glo_ok X G (c.fact 31 (f := .glo "finite_of") rfl)
  g_common_factor := He.glo_ok X G (c.fact 32 (f := .glo "common_factor") rfl)
  g_with_sign_of := He.glo_ok X G (c.fact 33 (f := .glo "with_sign_of") rfl)
  g_cut_whole := He.glo_ok X G (c.fact 34 (f := .glo "cut_whole") rfl)
  g__law_draw := He.glo_ok X G (c.fact 35 (f := .glo "_law_draw") rfl)
  n_range := He.free_ok X G (c.fact 36 (f := .free "range") rfl)
  g_ratio := He.glo_ok X G (c.fact 37 (f := .glo "ratio") rfl)
  n_tuple := He.free_ok X G (c.fact 38 (f := .free "tuple") rfl)
  g__law_common := He.glo_ok X G (c.fact 39 (f := .glo "_law_common") rfl)
  g__law_tens := He.glo_ok X G (c.fact 40 (f := .glo "_law_tens") rfl)
  g_floored := He.glo_ok X G (c.fact 41 (f := .glo "floored") rfl)
  g_ceiled := He.glo_ok X G (c.fact 42 (f := .glo "ceiled") rfl)
  g_truncated := He.glo_ok X G (c.fact 43 (f := .glo "truncated") rfl)
  g_nearest := He.glo_ok X G (c.fact 44 (f := .glo "nearest") rfl)
  g_number_hash := He.glo_ok X G (c.fact 45 (f := .glo "number_hash") rfl)
  g__law_pick := He.glo_ok X G (c.fact 46 (f := .glo "_law_pick") rfl)
  g__law_whole := He.glo_ok X G (c.fact 47 (f := .glo "_law_whole") rfl)
  g__law_ratio_right := He.glo_ok X G (c.fact 48 (f := .glo "_law_ratio_right") rfl)
  g__law_well := He.glo_ok X G (c.fact 49 (f := .glo "_law_well") rfl)
  g__law_number := He.glo_ok X G (c.fact 50 (f := .glo "_law_number") rfl)
  g__law_integers_right := He.glo_ok X G (c.fact 51 (f := .glo "_law_integers_right") rfl)
  g__law_stays := He.glo_ok X G (c.fact 52 (f := .glo "_law_stays") rfl)
  g__law_size := He.glo_ok X G (c.fact 53 (f := .glo "_law_size") rfl)
  g__law_tiny_right := He.glo_ok X G (c.fact 54 (f := .glo "_law_tiny_right") rfl)
  g__law_zero_right := He.glo_ok X G (c.fact 55 (f := .glo "_law_zero_right") rfl)
  g__law_long_right := He.glo_ok X G (c.fact 56 (f := .glo "_law_long_right") rfl)
  g_law := He.glo_ok X G (c.fact 57 (f := .glo "law") rfl)
  cl_Decimal := He.cls_ok (c.fact 58 (f := .cls "Decimal") rfl)
  no_Decimal_sign := He.noat_ok (c.fact 59 (f := .noat "Decimal" "sign") rfl)
  no_Decimal_coefficient := He.noat_ok (c.fact 60 (f := .noat "Decimal" "coefficient") rfl)
  no_Decimal_exponent := He.noat_ok (c.fact 61 (f := .noat "Decimal" "exponent") rfl)
  m_Decimal := He.mkr_ok (c.fact 62 (f := .mkr "Decimal") rfl)
  me_Decimal_adjusted := He.meth_ok (c.fact 63 (f := .meth "Decimal" "adjusted") rfl)
  me_Decimal___eq__ := He.meth_ok (c.fact 64 (f := .meth "Decimal" "__eq__") rfl)
  eqf := eqfB_ok (ex_at e 0 (f := ex_eqf) rfl)
  ow_Decimal := ownB_ok (ex_at e 1 (f := ex_ow_Decimal) rfl)
  dg := ex_at e 2 (f := ex_dg) rfl
  d_Decimal___init__ := c.def_ 0 (d := dd_Decimal___init__) rfl
  d_Decimal_adjusted := c.def_ 1 (d := dd_Decimal_adjusted) rfl
  d_Decimal___eq__ := c.def_ 2 (d := dd_Decimal___eq__) rfl
  d_is_integer := c.def_ 3 (d := dd_is_integer) rfl
  d_is_exponent := c.def_ 4 (d := dd_is_exponent) rfl
  d_is_finite := c.def_ 5 (d := dd_is_finite) rfl
  d_is_infinite := c.def_ 6 (d := dd_is_infinite) rfl
  d_is_nan := c.def_ 7 (d := dd_is_nan) rfl
  d_decimal_of := c.def_ 8 (d := dd_decimal_of) rfl
  d_tens := c.def_ 9 (d := dd_tens) rfl
  d_count_digits := c.def_ 10 (d := dd_count_digits) rfl
  d_order_of := c.def_ 11 (d := dd_order_of) rfl
  d_side_of := c.def_ 12 (d := dd_side_of) rfl
  d_size_order := c.def_ 13 (d := dd_size_order) rfl
  d_power_modulo := c.def_ 14 (d := dd_power_modulo) rfl
  d_number_hash := c.def_ 15 (d := dd_number_hash) rfl
  d_finite_of := c.def_ 16 (d := dd_finite_of) rfl
  d_common_factor := c.def_ 17 (d := dd_common_factor) rfl
  d_ratio := c.def_ 18 (d := dd_ratio) rfl
  d_cut_whole := c.def_ 19 (d := dd_cut_whole) rfl
  d_with_sign_of := c.def_ 20 (d := dd_with_sign_of) rfl
  d_truncated := c.def_ 21 (d := dd_truncated) rfl
  d_floored := c.def_ 22 (d := dd_floored) rfl
  d_ceiled := c.def_ 23 (d := dd_ceiled) rfl
  d_nearest := c.def_ 24 (d := dd_nearest) rfl
  d__law_well := c.def_ 25 (d := dd__law_well) rfl
  d__law_draw := c.def_ 26 (d := dd__law_draw) rfl
  d__law_pick := c.def_ 27 (d := dd__law_pick) rfl
  d__law_tens := c.def_ 28 (d := dd__law_tens) rfl
  d__law_whole := c.def_ 29 (d := dd__law_whole) rfl
  d__law_size := c.def_ 30 (d := dd__law_size) rfl
  d__law_common := c.def_ 31 (d := dd__law_common) rfl
  d__law_ratio_right := c.def_ 32 (d := dd__law_ratio_right) rfl
  d__law_integers_right := c.def_ 33 (d := dd__law_integers_right) rfl
  d__law_stays := c.def_ 34 (d := dd__law_stays) rfl
  d__law_tiny_right := c.def_ 35 (d := dd__law_tiny_right) rfl
  d__law_zero_right := c.def_ 36 (d := dd__law_zero_right) rfl
  d__law_number := c.def_ 37 (d := dd__law_number) rfl
  d__law_long_right := c.def_ 38 (d := dd__law_long_right) rfl
  d_law := c.def_ 39 (d := dd_law) rfl
theorem facts {P : Program} {w : World} {K : PySem.W.Frag} {h : Heap} {mg : Str → Option Value} {f : Addr} (X : K.In h) (G : h.Ns mainGlobals mg) (hfa : mg ("law" : Str) = some (.ref f)) (c : He.SaysD fa fn K) (e : (ex.all fun f => f K) = true) :
    ∃ fd : FuncData, (∀ (s : Shared) (v : Value), BindsTo s fd ⟨[v], []⟩ [("_law_script", v)]) ∧ ∀ base : Heap, K.In base → base.Ns mainGlobals mg → FnOk P w K mg base CX0 20 f fd ["_law_script"] (spP K g_law) := by
  have T := tx_of X G c e
  obtain ⟨fd, F⟩ := T.d_law
  have e2 := hfa.symm.trans T.g_law
  cases e2
  have b := FunD.bindsA (ps := ["_law_script"]) F fun _ _ _ _ _ _ us hl => match us, hl with | [_], _ => rfl
  refine ⟨fd, fun s v => b s [v] rfl, fun base _ _ => ?_⟩
  exact ok_law (P := P) (w := w) (base := base) T F
end Ht
end

open PySem PySem.W PySem.Calls PyProof.Rows
theorem PySem.Challenge.cw_tenwhole_k92_whole_ratios_and_integers_holds : PySem.Challenge.rw_tenwhole_k92_whole_ratios_and_integers.Holds := by
  refine Top.top_of fun said => ?_
  refine Hc.head_cut (r := OpenLaw.row PySem.Challenge.rw_tenwhole_k92_whole_ratios_and_integers) (q := view (OpenLaw.row PySem.Challenge.rw_tenwhole_k92_whole_ratios_and_integers).prog [54]) (H := Ht.hk) (M := Ht.total) (loose := Ht.loose) (d := HandSHeadRun.topDef (OpenLaw.row PySem.Challenge.rw_tenwhole_k92_whole_ratios_and_integers).prog 54) (kwd := [])
    (by kernel_rfl) (fun s => by kernel_rfl) Ht.run (by kernel_rfl) (by kernel_rfl) (by kernel_rfl) (by rfl) (by first | assumption | decide +kernel) (by decide +kernel) Ht.bare_ok ?hw ?hc
  case hw => w_witness2
  case hc =>
    refine L2.walk_ofE (l := PySem.Challenge.rw_tenwhole_k92_whole_ratios_and_integers) (n := 63) (k := 20) (x := "_law_script") (CX := L2.CX0) rfl (by decide) (by kernel_rfl) ⟨rfl, by decide, by decide⟩ ?F (fun _ _ _ _ z => z)
    intro w mg fa h Y G hmg0
    obtain ⟨K, KX, c, ce⟩ := Y
    have hmg : mg ("law" : PySem.Str) = some (.ref fa) := by
      have e : (HandSHeadRun.topDef (OpenLaw.row PySem.Challenge.rw_tenwhole_k92_whole_ratios_and_integers).prog 54).name = ("law" : PySem.Str) := by kernel_rfl
      rw [← e]
      exact hmg0
    obtain ⟨fd, hb, hF⟩ := Ht.facts (P := (PySem.Challenge.rw_tenwhole_k92_whole_ratios_and_integers).prog) (w := w) KX G hmg c ce
    exact ⟨K, fd, Tw.spP K Tw.g_law, KX, hb, fun H a ns hl _ hS => Tw.top_data hS hl (fun _ => rfl), hF⟩

