import PyProof.Rows.All
import Wide.All
import OpenK.AllK
import Wide.FinOn
import KE.KStateDown
import HandS.ForMost
import HandS.ForExc
import HandS.Defaults
import HandS.Flow
import HandS.Style
import HandS.Wide
import HandS.IsInst
import HandS.More
import HandS.Evl
import HandS.StrMore
import HandS.DictComp
import HandS.MakeKwOnly
import HandS.WordsExc
import HandS.Head0
import HandS.Head1
import HandS.Head2
import HandS.HeadEnd
import HandS.HeadHook1
import HandS.HeadHook2
import PySem.Challenge.RW_tenwhole_k14_zeros_finished
set_option Elab.async false
set_option linter.all false
set_option maxRecDepth 100000
set_option maxHeartbeats 4000000

namespace Tw
open PySem L2
/-! ### words of our own over the layer -/
section
variable {X : Cx}
theorem pe_gI {x : Str} {pos : Pos} {i : Int} (hg : Gl X x) (h : ∃ t, X.mg x = some (.int i t)) (hd : (x == ("__debug__" : Str)) = false := by decide) : PE X (.Name x pos) (tC (.int i)) := by
  obtain ⟨t, h⟩ := h
  exact pe_glob hg h ⟨t, rfl⟩ hd
theorem pe_gS {x : Str} {pos : Pos} {z : Str} (hg : Gl X x) (h : ∃ t, X.mg x = some (.str z t)) (hd : (x == ("__debug__" : Str)) = false := by decide) : PE X (.Name x pos) (tC (.str z)) := by
  obtain ⟨t, h⟩ := h
  exact pe_glob hg h ⟨t, rfl⟩ hd
theorem pe_gR {x : Str} {pos : Pos} {a : Addr} (hg : Gl X x) (h : X.mg x = some (.ref a)) (hd : (x == ("__debug__" : Str)) = false := by decide) : PE X (.Name x pos) (tC (.ref a)) := pe_glob hg h rfl hd
end
/-- a def of the top keeps a promise -/
def Okd (P : Program) (w : World) (K : PySem.W.Frag) (mg : Str → Option Value) (base : Heap) (k : Nat) (f : Str × Option Str) (ps : List Str) (sp : Sp) : Prop :=
  ∃ fd, FnOk P w K mg base CX0 k (He.fAd K f) fd ps sp ∧ Binds K fd ps [] ∧ PySem.W.keepIn K (.ref (He.fAd K f)) = true
theorem iteD {p A B : Prop} [Decidable p] (h1 : p → A) (h2 : ¬ p → B) : if decide p = true then A else B := by
  by_cases h : p
  · rw [if_pos (decide_eq_true h)]
    exact h1 h
  · rw [if_neg (by rw [decide_eq_false h]; exact Bool.false_ne_true)]
    exact h2 h
theorem ite_no {b : Bool} {A B : Prop} (h : b = false) (q : B) : if b = true then A else B := by
  rw [h]
  exact iteF q
theorem ite_yes {b : Bool} {A B : Prop} (h : b = true) (q : A) : if b = true then A else B := by
  rw [h]
  exact iteT q
theorem iteND {p A B : Prop} [Decidable p] (h1 : ¬ p → A) (h2 : p → B) : if (!decide p) = true then A else B := by
  by_cases h : p
  · rw [decide_eq_true h]
    exact iteF (h2 h)
  · rw [decide_eq_false h]
    exact iteT (h1 h)
/-- the test of a while whose parts are plain -/
theorem while_n {c : TT} {tb : TS} {D : Ends} {σ : St} {H : Hp} (Pv : Nat → St → Hp → Prop) (h0 : ∃ m, Pv m σ H)
    (hs : ∀ m σ H, Pv m σ H → c σ H fun b H1 => if b = true then ∃ N : St → Hp → Prop, (∀ σ' H', N σ' H' → ∃ m', m' < m ∧ Pv m' σ' H') ∧ tb { D with nx := N, ct := N, bk := D.nx } σ H1 else D.nx σ H1) : tWhile c tb D σ H := ⟨Pv, h0, hs⟩
theorem alloc_new {H : Hp} {o : HO} {Q : V → Hp → Prop} (h : ∀ p H', Same H H' → H p = none → H' p = some o → Q (.ref p) H') : ∀ p, H p = none → Q (.ref p) (upd H p o) := fun p hp =>
  h p _ (fun b u e => by rw [upd_ne (ne_of_none e hp)]; exact e) hp upd_same
theorem Same.rfl' {H : Hp} : Same H H := fun _ _ h => h
theorem Same.tr {H H1 H2 : Hp} (a : Same H H1) (b : Same H1 H2) : Same H H2 := fun x o h => b x o (a x o h)
/-! ### new objects: the heap behind is any that keeps what stood and holds the new one -/
/-- what is wanted of a new object o over H -/
def newO (o : HO) (H : Hp) (Q : VK) : Prop := ∀ p H', Same H H' → H p = none → H' p = some o → Q (.ref p) H'
theorem newO.at {o : HO} {H : Hp} {Q : VK} (h : newO o H Q) {p : Addr} (hp : H p = none) : Q (.ref p) (upd H p o) :=
  h p _ (fun b u e => by rw [upd_ne (ne_of_none e hp)]; exact e) hp upd_same
def nTup (t : TA) : TE := fun σ H Q => t σ H fun xs H1 => xs.length ≤ 100000 ∧ newO (.tup xs) H1 Q
def nLst (t : TA) : TE := fun σ H Q => t σ H fun xs H1 => xs.length ≤ 100000 ∧ newO (.lst xs) H1 Q
theorem sz_of {n : Nat} (h : n ≤ 100000) : n ≤ sizeLine := Nat.le_trans h (by decide)
section
variable {X : Cx} {e : Expr} {es : List Expr} {t : TA} {pos : Pos}
theorem n_tup {x1} (h : PA X es t) : PE X (.Tuple es x1 pos) (nTup t) := by
  refine ⟨fun pins s σ H Q I hq => ?_⟩
  refine wpAny_Tuple_spliced (thn (h.run pos pins s σ H _ I hq) fun us s1 ⟨xs, H1, I1, r, z, q⟩ => ⟨by rw [← r.length]; exact sz_of z, ?_⟩)
  have hf : H1 s1.heap.objs.size = none := I1.hok.fresh (Nat.le_refl _)
  refine ⟨.ref s1.heap.objs.size, upd H1 s1.heap.objs.size (.tup xs), I1.laid (t' := s1.toks) (fun b u e => Heap.get?_push_of_some _ e) (Nat.le_refl _) ?_, rfl, q.at hf⟩
  exact ⟨sz_of z, us, r, ⟨_, Heap.get?_push_size _ rfl, rfl, _, rfl⟩⟩
theorem n_lst (h : PA X es t) : PE X (.List es pos) (nLst t) := by
  refine ⟨fun pins s σ H Q I hq => ?_⟩
  refine wpAny_List_spliced (thn (h.run pos pins s σ H _ I hq) fun us s1 ⟨xs, H1, I1, r, z, q⟩ => ⟨by rw [← r.length]; exact sz_of z, ?_⟩)
  have hf : H1 s1.heap.objs.size = none := I1.hok.fresh (Nat.le_refl _)
  refine ⟨.ref s1.heap.objs.size, upd H1 s1.heap.objs.size (.lst xs), I1.laid (t' := s1.toks) (fun b u e => Heap.get?_push_of_some _ e) (Nat.le_refl _) ?_, rfl, q.at hf⟩
  exact ⟨sz_of z, us, 0, r, Heap.get?_push_size _ rfl⟩
end
/-! ### an object of an own class whose __init__ stores its fields -/
/-- the promise of an __init__ that makes of its arguments the fields fs -/
def spIn (C : Addr) (ok : List V → List (Str × V) → Prop) : Sp := fun vs H Q _ => ∃ (H0 : Hp) (p dx : Addr) (args : List V) (fs : List (Str × V)), vs = .ref p :: args ∧ Same H0 H ∧ H0 p = none ∧ H p = some (.ins C dx []) ∧ ok args fs ∧
  ∀ H', Same H0 H' → H' p = some (.ins C dx fs) → Q .non H'
/-- what is wanted of a new instance over H -/
def newI (C : Addr) (fs : List (Str × V)) (H : Hp) (Q : VK) : Prop := ∀ p dx H', Same H H' → H p = none → H' p = some (.ins C dx fs) → Q (.ref p) H'
def nMake (C : Addr) (ok : List V → List (Str × V) → Prop) (t : TA) : TE := fun σ H Q => t σ H fun vs H1 => ∃ fs, ok vs fs ∧ newI C fs H1 Q
section
variable {X : Cx} {x : Str} {e : Expr} {es : List Expr} {t : TA} {p pos : Pos} {C f : Addr} {fd : FuncData} {ps : List Str} {k : Nat} {ok : List V → List (Str × V) → Prop}
theorem n_make (M : Mk X.K C f) (F : FnOk X.prog X.w X.K X.mg X.base CX0 k f fd ps (spIn C ok)) (hr : Room (k + 1) X.A) (hg : Gl X x) (hm : X.mg x = some (.ref C)) (hb : Binds X.K fd ps [])
    (ha : PA X (e :: es) t) (hdb : (x == ("__debug__" : Str)) = false := by decide) (he : starEach (e :: es) X.env = (false, eval e X.env) :: starEach es X.env := by rfl) (hpl : (backTo pos (starEach es X.env)).any (·.1) = false := by rfl) :
    PE X (.Call (.Name x p) (e :: es) [] pos) (nMake C ok t) := by
  refine ⟨fun pins s σ H Q I h => ?_⟩
  refine wpAny_Call_Name_kw (ld_glob I hg hm ?_ hdb)
  refine PySem.W.callWith_K (h₀ := X.base) I.ok.mod.kin M.kp (thn (ha.run pos pins s σ H _ I h) fun us s1 ⟨vs, H1, I1, r, q⟩ => ⟨I1.kIn, ?_⟩) he hpl
  refine run_make (dvs := []) (E := fun _ _ _ => False) M F hr hb .nil (fun _ _ _ _ _ _ _ z => False.elim z) I1 r ?_
  intro x dx hx hdx ne
  obtain ⟨fs, ho, hn⟩ := q
  refine ⟨H1, x, dx, vs, fs, by rw [List.append_nil], ?_, hx, upd_same, ho, fun H' s' e' => ⟨rfl, hn x dx H' s' hx e'⟩⟩
  intro b o e
  rw [upd_ne (ne_of_none e hx), upd_ne (ne_of_none e hdx)]
  exact e
end
/-! ### isinstance of flat values -/
def flat4 : V → Bool
  | .non => true
  | .bl _ => true
  | .int _ => true
  | .str _ => true
  | _ => false
def isInt : V → Bool
  | .int _ => true
  | _ => false
def isBl : V → Bool
  | .bl _ => true
  | _ => false
def isStr : V → Bool
  | .str _ => true
  | _ => false
def isNum : V → Bool
  | .int _ => true
  | .bl _ => true
  | _ => false
theorem kb1 : kitB "int" "int" = some true := by decide +kernel
theorem kb2 : kitB "int" "bool" = some false := by decide +kernel
theorem kb3 : kitB "int" "str" = some false := by decide +kernel
theorem kb4 : kitB "bool" "int" = some true := by decide +kernel
theorem kb5 : kitB "bool" "bool" = some true := by decide +kernel
theorem kb6 : kitB "bool" "str" = some false := by decide +kernel
theorem kb7 : kitB "str" "int" = some false := by decide +kernel
theorem kb8 : kitB "str" "bool" = some false := by decide +kernel
theorem kb9 : kitB "str" "str" = some true := by decide +kernel
theorem kb10 : kitB "NoneType" "int" = some false := by decide +kernel
theorem kb11 : kitB "NoneType" "bool" = some false := by decide +kernel
theorem kb12 : kitB "NoneType" "str" = some false := by decide +kernel
theorem kb13 : kitB "tuple" "tuple" = some true := by decide +kernel
theorem kb14 : kitB "list" "tuple" = some false := by decide +kernel
theorem kb15 : kitB "list" "list" = some true := by decide +kernel
theorem kb16 : kitB "tuple" "list" = some false := by decide +kernel
theorem kb17 : kitB "int" "tuple" = some false := by decide +kernel
theorem kb18 : kitB "str" "tuple" = some false := by decide +kernel
def rIsF (n : String) (f : V → Bool) : List V → Hp → VK → Prop := fun xs H Q => ∃ x, xs = [x, .ty n] ∧ flat4 x = true ∧ Q (.bl (f x)) H
section
variable {X : Cx}
theorem CallR.imp {f : Value} {r r' : List V → Hp → VK → Prop} (h : CallR X f r) (i : ∀ xs H Q, r' xs H Q → r xs H Q) : CallR X f r' := fun pins s σ H xs us Q I rr q => h pins s σ H xs us Q I rr (i xs H Q q)
theorem isi_int : CallR X (.builtin "isinstance") (rIsF "int" isNum) := CallR.imp call_isi fun xs H Q h => by
  obtain ⟨x, rfl, hf, q⟩ := h
  cases x with
  | non => exact ⟨_, _, _, _, _, rfl, .ty _, .base .non, kit_ty kb10, q⟩
  | bl b => exact ⟨_, _, _, _, _, rfl, .ty _, .base (.bl b), kit_ty kb4, q⟩
  | int i => exact ⟨_, _, _, _, _, rfl, .ty _, .base (.int i), kit_ty kb1, q⟩
  | str z => exact ⟨_, _, _, _, _, rfl, .ty _, .base (.str z), kit_ty kb7, q⟩
  | _ => cases hf
theorem isi_bool : CallR X (.builtin "isinstance") (rIsF "bool" isBl) := CallR.imp call_isi fun xs H Q h => by
  obtain ⟨x, rfl, hf, q⟩ := h
  cases x with
  | non => exact ⟨_, _, _, _, _, rfl, .ty _, .base .non, kit_ty kb11, q⟩
  | bl b => exact ⟨_, _, _, _, _, rfl, .ty _, .base (.bl b), kit_ty kb5, q⟩
  | int i => exact ⟨_, _, _, _, _, rfl, .ty _, .base (.int i), kit_ty kb2, q⟩
  | str z => exact ⟨_, _, _, _, _, rfl, .ty _, .base (.str z), kit_ty kb8, q⟩
  | _ => cases hf
theorem isi_str : CallR X (.builtin "isinstance") (rIsF "str" isStr) := CallR.imp call_isi fun xs H Q h => by
  obtain ⟨x, rfl, hf, q⟩ := h
  cases x with
  | non => exact ⟨_, _, _, _, _, rfl, .ty _, .base .non, kit_ty kb12, q⟩
  | bl b => exact ⟨_, _, _, _, _, rfl, .ty _, .base (.bl b), kit_ty kb6, q⟩
  | int i => exact ⟨_, _, _, _, _, rfl, .ty _, .base (.int i), kit_ty kb3, q⟩
  | str z => exact ⟨_, _, _, _, _, rfl, .ty _, .base (.str z), kit_ty kb9, q⟩
  | _ => cases hf
/-- a tuple that stands in H -/
def rIsTup : List V → Hp → VK → Prop := fun xs H Q => ∃ p ys, xs = [.ref p, .ty "tuple"] ∧ H p = some (.tup ys) ∧ Q (.bl true) H
theorem isi_tuple : CallR X (.builtin "isinstance") rIsTup := CallR.imp call_isi fun xs H Q h => by
  obtain ⟨p, ys, rfl, hp, q⟩ := h
  exact ⟨_, _, _, _, _, rfl, .ty _, .base (.tup hp), kit_ty kb13, q⟩
/-- abs, max, min as functions -/
def rAbs : List V → Hp → VK → Prop := fun xs H Q => ∃ i : Int, xs = [.int i] ∧ Q (.int (i.natAbs : Int)) H
theorem abs_i : CallR X (.builtin "abs") rAbs := CallR.imp call_abs fun xs H Q h => by
  obtain ⟨i, rfl, q⟩ := h
  refine ⟨i, rfl, ?_⟩
  have e : (if i < 0 then -i else i) = (i.natAbs : Int) := by split <;> omega
  rw [e]
  exact q
def rMaxI : List V → Hp → VK → Prop := fun xs H Q => ∃ i j : Int, xs = [.int i, .int j] ∧ Q (.int (max i j)) H
theorem max_i (hc : X.calm = true) : CallR X (.builtin "max") rMaxI := CallR.imp (call_max2 hc) fun xs H Q h => by
  obtain ⟨i, j, rfl, q⟩ := h
  refine ⟨i, j, rfl, ?_⟩
  have e : (if j > i then j else i) = max i j := by split <;> omega
  rw [e]
  exact q
def rMinI : List V → Hp → VK → Prop := fun xs H Q => ∃ i j : Int, xs = [.int i, .int j] ∧ Q (.int (min i j)) H
theorem min_i (hc : X.calm = true) : CallR X (.builtin "min") rMinI := CallR.imp (call_min2 hc) fun xs H Q h => by
  obtain ⟨i, j, rfl, q⟩ := h
  refine ⟨i, j, rfl, ?_⟩
  have e : (if j < i then j else i) = min i j := by split <;> omega
  rw [e]
  exact q
/-- int of an int, of a bool -/
def toI : V → Int
  | .int i => i
  | .bl b => if b then 1 else 0
  | _ => 0
def rInt1 : List V → Hp → VK → Prop := fun xs H Q => ∃ x, xs = [x] ∧ isNum x = true ∧ Q (.int (toI x)) H
theorem int_1 : CallR X (.type "int") rInt1 := CallR.imp call_int1 fun xs H Q h => by
  obtain ⟨x, rfl, hn, q⟩ := h
  cases x with
  | int i => exact .inl ⟨i, rfl, q⟩
  | bl b => exact .inr ⟨b, rfl, q⟩
  | _ => cases hn
/-- len of a tuple, a list that stand in H -/
def rLenT : List V → Hp → VK → Prop := fun xs H Q => ∃ p ys, xs = [.ref p] ∧ H p = some (.tup ys) ∧ Q (.int (ys.length : Int)) H
theorem len_t : CallR X (.builtin "len") rLenT := CallR.imp call_len fun xs H Q h => by
  obtain ⟨p, ys, rfl, hp, q⟩ := h
  exact ⟨_, ys.length, rfl, .inr ⟨_, SqT.of hp, rfl⟩, q⟩
def rLenL : List V → Hp → VK → Prop := fun xs H Q => ∃ p ys, xs = [.ref p] ∧ H p = some (.lst ys) ∧ Q (.int (ys.length : Int)) H
theorem len_l : CallR X (.builtin "len") rLenL := CallR.imp call_len fun xs H Q h => by
  obtain ⟨p, ys, rfl, hp, q⟩ := h
  exact ⟨_, ys.length, rfl, .inl ⟨_, SqL.of hp, rfl⟩, q⟩
/-- x in a tuple of flat values that was just laid; in a tuple of the module -/
def inB (x : V) (xs : List V) : Bool := inV x xs
theorem OpR.imp {f : Value → Value → Sem Value} {r r' : R2} (h : OpR X f r) (i : ∀ x y H Q, r' x y H Q → r x y H Q) : OpR X f r' := fun pins s σ H x y v u Q I rx ry q => h pins s σ H x y v u Q I rx ry (i x y H Q q)
def rInT : R2 := fun x y H Q => ∃ p xs, y = .ref p ∧ H p = some (.tup xs) ∧ flatV x = true ∧ xs.all flatV = true ∧ Q (.bl (inV x xs)) H
def rNiT : R2 := fun x y H Q => ∃ p xs, y = .ref p ∧ H p = some (.tup xs) ∧ flatV x = true ∧ xs.all flatV = true ∧ Q (.bl (!inV x xs)) H
theorem in_t : OpR X (compareOp .In) rInT := OpR.imp op_in_seq fun x y H Q h => by
  obtain ⟨p, xs, rfl, hp, h1, h2, q⟩ := h
  exact ⟨p, xs, rfl, .inr (SqT.of hp), h1, h2, q⟩
theorem ni_t : OpR X (compareOp .NotIn) rNiT := OpR.imp op_notIn_seq fun x y H Q h => by
  obtain ⟨p, xs, rfl, hp, h1, h2, q⟩ := h
  exact ⟨p, xs, rfl, .inr (SqT.of hp), h1, h2, q⟩
/-- t[i] of a tuple, xs[i] of a list that stand in H -/
def rIxTu : R2 := fun x y H Q => ∃ p xs i v, x = .ref p ∧ y = .int i ∧ H p = some (.tup xs) ∧ atI xs i = some v ∧ Q v H
def rIxLi : R2 := fun x y H Q => ∃ p xs i v, x = .ref p ∧ y = .int i ∧ H p = some (.lst xs) ∧ atI xs i = some v ∧ Q v H
theorem ix_t : IxR X rIxTu := fun value slice pins s σ H x y u v Q I rx ry h hs => by
  obtain ⟨p, xs, i, z, rfl, rfl, hp, ha, q⟩ := h
  exact ix_tup value slice pins s σ H _ _ u v Q I rx ry ⟨p, xs, i, z, rfl, rfl, SqT.of hp, ha, q⟩ hs
theorem ix_l : IxR X rIxLi := fun value slice pins s σ H x y u v Q I rx ry h hs => by
  obtain ⟨p, xs, i, z, rfl, rfl, hp, ha, q⟩ := h
  exact ix_list value slice pins s σ H _ _ u v Q I rx ry ⟨p, xs, i, z, rfl, rfl, SqL.of hp, ha, q⟩ hs
end
theorem str_beq (a z : Str) : (a == z) = decide (z = a) := by
  rw [Bool.eq_iff_iff, beq_iff_eq, decide_eq_true_iff]
  exact eq_comm
def sp_is_integer : Sp := fun vs H Q _ => ∃ x, vs = [x] ∧ flat4 x = true ∧ Q (.bl (isInt x)) H
/-! ### comprehensions as filterMap -/
def lcBody (g : TG) (tt : TT) (te : TE) (vs : List Nat) (σ : L2.St) (x : V) (H : Hp) (yes : V → Hp → Prop) (no : Hp → Prop) : Prop :=
  g x (wipe σ vs) H fun σ2 H2 => wipe σ2 vs = wipe σ vs ∧ tt σ2 H2 fun b H3 => if b = true then te σ2 H3 yes else no H3
theorem take_fm {f : V → Option V} {xs : List V} {i : Nat} {x : V} (h : xs[i]? = some x) : (xs.take (i + 1)).filterMap f = (xs.take i).filterMap f ++ (f x).toList := by
  have hl := (List.getElem?_eq_some_iff.mp h)
  obtain ⟨hi, hx⟩ := hl
  rw [List.take_succ, h, List.filterMap_append]
  cases e : f x <;> simp [e]
theorem lc_fm {K : PySem.W.Frag} {a : Addr} {xs : List V} {g : TG} {tt : TT} {te : TE} {vs : List Nat} {σ : L2.St} {H1 : Hp} {Q : VK} (f : V → Option V) (hx : SqL K H1 a xs) (hn : xs.length ≤ 100000)
    (step : ∀ x, x ∈ xs → ∀ H, Same H1 H → ∀ (yes : V → Hp → Prop) (no : Hp → Prop), (∀ y, f x = some y → ∀ H', Same H H' → yes y H') → (f x = none → ∀ H', Same H H' → no H') → lcBody g tt te vs σ x H yes no)
    (fin : newO (.lst (xs.filterMap f)) H1 Q) :
    ∀ D, H1 D = none → ∃ W : Nat → Nat → Hp → Prop, (∃ m, W 0 m (upd H1 D (.lst []))) ∧ ∀ i m H, W i m H →
      ((Itl K a).stop i H ∧ Q (.ref D) H) ∨ ((Itl K a).go i H ∧ ∃ Nx : Hp → Prop, (∀ H', Nx H' → ∃ m', m' < m ∧ W (i + 1) m' H') ∧ ∀ x H', (Itl K a).yld i H x H' → g x (wipe σ vs) H' fun σ2 H2 => wipe σ2 vs = wipe σ vs ∧ tt σ2 H2 fun b H3 =>
        if b = true then te σ2 H3 fun y H4 => ∃ acc, H4 D = some (.lst acc) ∧ acc.length < sizeLine ∧ Nx (upd H4 D (.lst (acc ++ [y]))) else Nx H3) := by
  intro D hD
  have sq : ∀ H, Same H1 H → SqL K H a xs := fun H e => Same.seq e hx
  refine lc_list (K := K) (a := a) (xs := xs) (Qd := fun H => Q (.ref D) H) (fun i H => Same H1 H ∧ H D = some (.lst ((xs.take i).filterMap f))) ⟨fun b o e => by rw [upd_ne (ne_of_none e hD)]; exact e, upd_same⟩ (fun i H _ p => sq H p.1) ?_ ?_
  · intro i x H hi p
    obtain ⟨s1, d1⟩ := p
    have hm : x ∈ xs := List.mem_of_getElem? hi
    refine step x hm H s1 _ _ (fun y hy H' e' => ?_) (fun hy H' e' => ?_)
    · refine ⟨_, e' _ _ d1, ?_, ?_, ?_⟩
      · have h1 : ((xs.take i).filterMap f).length ≤ (xs.take i).length := List.length_filterMap_le f _
        have h2 : (xs.take i).length ≤ xs.length := by rw [List.length_take]; exact Nat.min_le_right ..
        exact Nat.lt_of_le_of_lt (Nat.le_trans (Nat.le_trans h1 h2) hn) (by decide)
      · intro b o e
        rw [upd_ne (ne_of_none e hD)]
        exact e' _ _ (s1 _ _ e)
      · rw [upd_same, take_fm hi, hy]
        rfl
    · refine ⟨Same.tr s1 e', ?_⟩
      rw [e' _ _ d1, take_fm hi, hy]
      simp
  · intro H p
    obtain ⟨s1, d1⟩ := p
    rw [List.take_length] at d1
    exact fin D H s1 hD d1
theorem lc_fmT {K : PySem.W.Frag} {a : Addr} {xs : List V} {g : TG} {tt : TT} {te : TE} {vs : List Nat} {σ : L2.St} {H1 : Hp} {Q : VK} (f : V → Option V) (hx : SqT K H1 a xs) (hn : xs.length ≤ 100000)
    (step : ∀ x, x ∈ xs → ∀ H, Same H1 H → ∀ (yes : V → Hp → Prop) (no : Hp → Prop), (∀ y, f x = some y → ∀ H', Same H H' → yes y H') → (f x = none → ∀ H', Same H H' → no H') → lcBody g tt te vs σ x H yes no)
    (fin : newO (.lst (xs.filterMap f)) H1 Q) :
    ∀ D, H1 D = none → ∃ W : Nat → Nat → Hp → Prop, (∃ m, W 0 m (upd H1 D (.lst []))) ∧ ∀ i m H, W i m H →
      ((Itt K a).stop i H ∧ Q (.ref D) H) ∨ ((Itt K a).go i H ∧ ∃ Nx : Hp → Prop, (∀ H', Nx H' → ∃ m', m' < m ∧ W (i + 1) m' H') ∧ ∀ x H', (Itt K a).yld i H x H' → g x (wipe σ vs) H' fun σ2 H2 => wipe σ2 vs = wipe σ vs ∧ tt σ2 H2 fun b H3 =>
        if b = true then te σ2 H3 fun y H4 => ∃ acc, H4 D = some (.lst acc) ∧ acc.length < sizeLine ∧ Nx (upd H4 D (.lst (acc ++ [y]))) else Nx H3) := by
  intro D hD
  have sq : ∀ H, Same H1 H → SqT K H a xs := fun H e => Evl.ex_t e hx
  refine lc_tup (K := K) (a := a) (xs := xs) (Qd := fun H => Q (.ref D) H) (fun i H => Same H1 H ∧ H D = some (.lst ((xs.take i).filterMap f))) ⟨fun b o e => by rw [upd_ne (ne_of_none e hD)]; exact e, upd_same⟩ (fun i H _ p => sq H p.1) ?_ ?_
  · intro i x H hi p
    obtain ⟨s1, d1⟩ := p
    have hm : x ∈ xs := List.mem_of_getElem? hi
    refine step x hm H s1 _ _ (fun y hy H' e' => ?_) (fun hy H' e' => ?_)
    · refine ⟨_, e' _ _ d1, ?_, ?_, ?_⟩
      · have h1 : ((xs.take i).filterMap f).length ≤ (xs.take i).length := List.length_filterMap_le f _
        have h2 : (xs.take i).length ≤ xs.length := by rw [List.length_take]; exact Nat.min_le_right ..
        exact Nat.lt_of_le_of_lt (Nat.le_trans (Nat.le_trans h1 h2) hn) (by decide)
      · intro b o e
        rw [upd_ne (ne_of_none e hD)]
        exact e' _ _ (s1 _ _ e)
      · rw [upd_same, take_fm hi, hy]
        rfl
    · refine ⟨Same.tr s1 e', ?_⟩
      rw [e' _ _ d1, take_fm hi, hy]
      simp
  · intro H p
    obtain ⟨s1, d1⟩ := p
    rw [List.take_length] at d1
    exact fin D H s1 hD d1
/-! ### x in T, T a tuple of the module -/
def nIn (xs : List V) (te : TE) : TE := fun σ H Q => te σ H fun x H1 => flatV x = true ∧ Q (.bl (inV x xs)) H1
def nNi (xs : List V) (te : TE) : TE := fun σ H Q => te σ H fun x H1 => flatV x = true ∧ Q (.bl (!inV x xs)) H1
section
variable {X : Cx} {e : Expr} {te : TE} {x : Str} {p pos : Pos} {a : Addr} {xs : List V}
theorem pe_inG (he : PE X e te) (hg : Gl X x) (hm : X.mg x = some (.ref a)) (hx : ∀ H, SqT X.K H a xs) (hf : xs.all flatV = true := by rfl) (hd : (x == ("__debug__" : Str)) = false := by decide) : PE X (.Compare e [.In] [.Name x p] pos) (nIn xs te) := by
  refine ⟨fun pins s σ H Q I h => ?_⟩
  refine wpAny_Compare1 (thn (he.run pins s σ H _ I h) fun v s1 ⟨y, H1, I1, r1, q1⟩ => thn ((pe_gR hg hm hd (pos := p)).run pins s1 σ H1 (fun z H2 => z = .ref a ∧ H2 = H1) I1 ⟨rfl, rfl⟩) fun u s2 ⟨z, H2, I2, r2, e1, e2⟩ => ?_) rfl
  subst e1 e2
  exact op_in_seq pins s2 σ H2 y _ v u Q I2 r1 r2 ⟨a, xs, rfl, .inr (hx H2), q1.1, hf, q1.2⟩
theorem pe_niG (he : PE X e te) (hg : Gl X x) (hm : X.mg x = some (.ref a)) (hx : ∀ H, SqT X.K H a xs) (hf : xs.all flatV = true := by rfl) (hd : (x == ("__debug__" : Str)) = false := by decide) : PE X (.Compare e [.NotIn] [.Name x p] pos) (nNi xs te) := by
  refine ⟨fun pins s σ H Q I h => ?_⟩
  refine wpAny_Compare1 (thn (he.run pins s σ H _ I h) fun v s1 ⟨y, H1, I1, r1, q1⟩ => thn ((pe_gR hg hm hd (pos := p)).run pins s1 σ H1 (fun z H2 => z = .ref a ∧ H2 = H1) I1 ⟨rfl, rfl⟩) fun u s2 ⟨z, H2, I2, r2, e1, e2⟩ => ?_) rfl
  subst e1 e2
  exact op_notIn_seq pins s2 σ H2 y _ v u Q I2 r1 r2 ⟨a, xs, rfl, .inr (hx H2), q1.1, hf, q1.2⟩
end
def nInT (xs : List V) (te : TE) : TT := fun σ H Q => te σ H fun x H1 => flatV x = true ∧ Q (inV x xs) H1
def nNiT (xs : List V) (te : TE) : TT := fun σ H Q => te σ H fun x H1 => flatV x = true ∧ Q (!inV x xs) H1
section
variable {X : Cx} {e : Expr} {te : TE} {x : Str} {p pos : Pos} {a : Addr} {xs : List V}
theorem pt_inG (he : PE X e te) (hg : Gl X x) (hm : X.mg x = some (.ref a)) (hx : ∀ H, SqT X.K H a xs) (hf : xs.all flatV = true := by rfl) (hd : (x == ("__debug__" : Str)) = false := by decide) : PT X (.Compare e [.In] [.Name x p] pos) (nInT xs te) := by
  refine ⟨fun pins s σ H Q I h => ?_⟩
  refine wpAny_isTrue_Compare1 (thn (he.run pins s σ H _ I h) fun v s1 ⟨y, H1, I1, r1, q1⟩ => thn ((pe_gR hg hm hd (pos := p)).run pins s1 σ H1 (fun z H2 => z = .ref a ∧ H2 = H1) I1 ⟨rfl, rfl⟩) fun u s2 ⟨z, H2, I2, r2, e1, e2⟩ => ?_) rfl
  subst e1 e2
  refine thn (op_in_seq pins s2 σ H2 y _ v u (fun z H' => ∃ k, z = .bl k ∧ Q k H') I2 r1 r2 ⟨a, xs, rfl, .inr (hx H2), q1.1, hf, _, rfl, q1.2⟩) fun c s3 ⟨z, H3, I3, r3, k, e, q3⟩ => ?_
  subst e
  cases r3
  exact wpAny_truthy_bool ⟨H3, I3, q3⟩
theorem pt_niG (he : PE X e te) (hg : Gl X x) (hm : X.mg x = some (.ref a)) (hx : ∀ H, SqT X.K H a xs) (hf : xs.all flatV = true := by rfl) (hd : (x == ("__debug__" : Str)) = false := by decide) : PT X (.Compare e [.NotIn] [.Name x p] pos) (nNiT xs te) := by
  refine ⟨fun pins s σ H Q I h => ?_⟩
  refine wpAny_isTrue_Compare1 (thn (he.run pins s σ H _ I h) fun v s1 ⟨y, H1, I1, r1, q1⟩ => thn ((pe_gR hg hm hd (pos := p)).run pins s1 σ H1 (fun z H2 => z = .ref a ∧ H2 = H1) I1 ⟨rfl, rfl⟩) fun u s2 ⟨z, H2, I2, r2, e1, e2⟩ => ?_) rfl
  subst e1 e2
  refine thn (op_notIn_seq pins s2 σ H2 y _ v u (fun z H' => ∃ k, z = .bl k ∧ Q k H') I2 r1 r2 ⟨a, xs, rfl, .inr (hx H2), q1.1, hf, _, rfl, q1.2⟩) fun c s3 ⟨z, H3, I3, r3, k, e, q3⟩ => ?_
  subst e
  cases r3
  exact wpAny_truthy_bool ⟨H3, I3, q3⟩
end
/-! ### isinstance against an own class -/
structure OwnC (K : PySem.W.Frag) (C : Addr) : Prop where
  ha : PySem.W.findIn K (.ref C) "__class__" = some (some (.builtin "object.__class__"))
  hn : PySem.W.specialIn K (.builtin "object.__class__") "__get__" = some (some (.builtin "getset_descriptor.__get__"))
  ht : PySem.W.takesIn K (.builtin "object.__class__") = some true
  hm : PySem.W.mroIn K C (.type "object") = some true
  self : PySem.W.kitOne K (.ref C) (.ref C) = some true
  int : PySem.W.kitOne K (.type "int") (.ref C) = some false
  str : PySem.W.kitOne K (.type "str") (.ref C) = some false
def ownB (K : PySem.W.Frag) (C : Addr) : Bool := He.eqO (PySem.W.findIn K (.ref C) "__class__") (some (some (.builtin "object.__class__"))) && (He.eqO (PySem.W.specialIn K (.builtin "object.__class__") "__get__") (some (some (.builtin "getset_descriptor.__get__"))) &&
  (decide (PySem.W.takesIn K (.builtin "object.__class__") = some true) && (decide (PySem.W.mroIn K C (.type "object") = some true) && (decide (PySem.W.kitOne K (.ref C) (.ref C) = some true) && (decide (PySem.W.kitOne K (.type "int") (.ref C) = some false) && decide (PySem.W.kitOne K (.type "str") (.ref C) = some false))))))
theorem ownB_ok {K : PySem.W.Frag} {C : Addr} (h : ownB K C = true) : OwnC K C := by
  obtain ⟨h1, h⟩ := He.ba h
  obtain ⟨h2, h⟩ := He.ba h
  obtain ⟨h3, h⟩ := He.ba h
  obtain ⟨h4, h⟩ := He.ba h
  obtain ⟨h5, h⟩ := He.ba h
  obtain ⟨h6, h7⟩ := He.ba h
  exact ⟨He.eqO_ok h1, He.eqO_ok h2, of_decide_eq_true h3, of_decide_eq_true h4, of_decide_eq_true h5, of_decide_eq_true h6, of_decide_eq_true h7⟩
/-- an instance of the class at C, or an int -/
def rIsOwn (C : Addr) : List V → Hp → VK → Prop := fun xs H Q => (∃ p dx fs, xs = [.ref p, .ref C] ∧ H p = some (.ins C dx fs) ∧ Q (.bl true) H) ∨ (∃ i : Int, xs = [.int i, .ref C] ∧ Q (.bl false) H)
theorem isi_own {X : Cx} {C : Addr} (cl : Cls X.K C) (o : OwnC X.K C) : CallR X (.builtin "isinstance") (rIsOwn C) := CallR.imp call_isi fun xs H Q h => by
  rcases h with ⟨p, dx, fs, rfl, hp, q⟩ | ⟨i, rfl, q⟩
  · exact ⟨_, _, _, _, _, rfl, .own C, .base (.ins hp cl o.ha o.hn o.ht o.hm), o.self, q⟩
  · exact ⟨_, _, _, _, _, rfl, .own C, .base (.int i), o.int, q⟩
theorem sc_ii {a b : Int} : scal (.int a) (.int b) = true := rfl
theorem sc_ss {a b : Str} : scal (.str a) (.str b) = true := rfl
theorem sc_is {a : Int} {b : Str} : scal (.int a) (.str b) = true := rfl
theorem sc_si {a : Str} {b : Int} : scal (.str a) (.int b) = true := rfl
theorem sc_bb {a b : Bool} : scal (.bl a) (.bl b) = true := rfl
/-! ### comprehensions over a local name, as rules -/
theorem PE.imp {X : Cx} {e : Expr} {t t' : TE} (h : PE X e t) (i : ∀ σ H Q, t' σ H Q → t σ H Q) : PE X e t' := ⟨fun pins s σ H Q I q => h.run pins s σ H Q I (i σ H Q q)⟩
theorem PS.imp {X : Cx} {e : Stmt} {t t' : TS} (h : PS X e t) (i : ∀ D σ H, t' D σ H → t D σ H) : PS X e t' := ⟨fun pins s σ H D I q => h.run pins s σ H D I (i D σ H q)⟩
def lcStep (g : TG) (tt : TT) (te : TE) (vs : List Nat) (σ : L2.St) (xs : List V) (f : V → Option V) (H1 : Hp) : Prop :=
  ∀ x, x ∈ xs → ∀ H, Same H1 H → ∀ (yes : V → Hp → Prop) (no : Hp → Prop), (∀ y, f x = some y → ∀ H', Same H H' → yes y H') → (f x = none → ∀ H', Same H H' → no H') → lcBody g tt te vs σ x H yes no
def nLcL (j : Nat) (g : TG) (tt : TT) (te : TE) (vs : List Nat) : TE := fun σ H Q => ∃ a xs f, σ[j]? = some (some (.ref a)) ∧ H a = some (.lst xs) ∧ xs.length ≤ 100000 ∧ lcStep g tt te vs σ xs f H ∧ newO (.lst (xs.filterMap f)) H Q
def nLcT (j : Nat) (g : TG) (tt : TT) (te : TE) (vs : List Nat) : TE := fun σ H Q => ∃ a xs f, σ[j]? = some (some (.ref a)) ∧ H a = some (.tup xs) ∧ xs.length ≤ 100000 ∧ lcStep g tt te vs σ xs f H ∧ newO (.lst (xs.filterMap f)) H Q
theorem lcL_imp {K : PySem.W.Frag} {j : Nat} {g : TG} {tt : TT} {te : TE} {vs : List Nat} (σ : L2.St) (H : Hp) (Q : VK) (h : nLcL j g tt te vs σ H Q) : tLc (iList K (tVar j)) g tt te vs σ H Q := by
  obtain ⟨a, xs, f, h1, h2, h3, h4, h5⟩ := h
  exact ⟨_, h1, a, rfl, ⟨xs, SqL.of h2⟩, lc_fm f (SqL.of h2) h3 h4 h5⟩
theorem lcT_imp {K : PySem.W.Frag} {j : Nat} {g : TG} {tt : TT} {te : TE} {vs : List Nat} (σ : L2.St) (H : Hp) (Q : VK) (h : nLcT j g tt te vs σ H Q) : tLc (iTup K (tVar j)) g tt te vs σ H Q := by
  obtain ⟨a, xs, f, h1, h2, h3, h4, h5⟩ := h
  exact ⟨_, h1, a, rfl, ⟨xs, SqT.of h2⟩, lc_fmT f (SqT.of h2) h3 h4 h5⟩
theorem n_lcL {X : Cx} {e : Expr} {j : Nat} {g : TG} {tt : TT} {te : TE} {vs : List Nat} (h : PE X e (tLc (iList X.K (tVar j)) g tt te vs)) : PE X e (nLcL j g tt te vs) := PE.imp h lcL_imp
theorem n_lcT {X : Cx} {e : Expr} {j : Nat} {g : TG} {tt : TT} {te : TE} {vs : List Nat} (h : PE X e (tLc (iTup X.K (tVar j)) g tt te vs)) : PE X e (nLcT j g tt te vs) := PE.imp h lcT_imp
theorem n_setL {X : Cx} {e : Stmt} {i j : Nat} {g : TG} {tt : TT} {te : TE} {vs : List Nat} (h : PS X e (tAsg (tLc (iList X.K (tVar j)) g tt te vs) (gName i))) : PS X e (tAsg (nLcL j g tt te vs) (gName i)) := PS.imp h fun _ σ H q => lcL_imp σ H _ q
theorem n_setT {X : Cx} {e : Stmt} {i j : Nat} {g : TG} {tt : TT} {te : TE} {vs : List Nat} (h : PS X e (tAsg (tLc (iTup X.K (tVar j)) g tt te vs) (gName i))) : PS X e (tAsg (nLcT j g tt te vs) (gName i)) := PS.imp h fun _ σ H q => lcT_imp σ H _ q
/-! ### dict comprehensions over a local tuple, sorted of a dict, tuple of a list -/
def dcBody (g : TG) (tt : TT) (tk tv : TE) (vs : List Nat) (σ : L2.St) (x : V) (H : Hp) (yes : V → V → Hp → Prop) (no : Hp → Prop) : Prop :=
  g x (wipe σ vs) H fun σ2 H2 => wipe σ2 vs = wipe σ vs ∧ tt σ2 H2 fun b H3 => if b = true then tk σ2 H3 fun y H4 => tv σ2 H4 fun z H5 => yes y z H5 else no H3
def dcStep (g : TG) (tt : TT) (tk tv : TE) (vs : List Nat) (σ : L2.St) (xs : List V) (f : V → Option (Key × V)) (H1 : Hp) : Prop :=
  ∀ x, x ∈ xs → ∀ H, Same H1 H → ∀ (yes : V → V → Hp → Prop) (no : Hp → Prop), (∀ k y, f x = some (k, y) → ∀ H', Same H H' → yes (kV k) y H') → (f x = none → ∀ H', Same H H' → no H') → dcBody g tt tk tv vs σ x H yes no
theorem take_fmK {f : V → Option (Key × V)} {xs : List V} {i : Nat} {x : V} (h : xs[i]? = some x) : (xs.take (i + 1)).filterMap f = (xs.take i).filterMap f ++ (f x).toList := by
  rw [List.take_succ, h, List.filterMap_append]
  cases e : f x <;> simp [e]
theorem merge_length (kvs : List (Key × V)) : ∀ more : List (Key × V), (mergeK kvs more).length ≤ kvs.length + more.length := by
  intro more
  induction more generalizing kvs with
  | nil => simp [mergeK]
  | cons p r ih =>
    have h1 := ih (putK kvs p.1 p.2)
    have h2 := length_putK kvs p.1 p.2
    show (mergeK (putK kvs p.1 p.2) r).length ≤ _
    simp only [List.length_cons]
    omega
theorem merge_snoc (kvs more : List (Key × V)) (k : Key) (v : V) : mergeK kvs (more ++ [(k, v)]) = putK (mergeK kvs more) k v := by
  unfold mergeK
  rw [List.foldl_append]
  rfl
theorem dc_fmT {K : PySem.W.Frag} {a : Addr} {xs : List V} {g : TG} {tt : TT} {tk tv : TE} {vs : List Nat} {σ : L2.St} {H1 : Hp} {Q : VK} (f : V → Option (Key × V)) (hx : SqT K H1 a xs) (hn : xs.length ≤ 100000)
    (step : dcStep g tt tk tv vs σ xs f H1) (fin : newO (.dK (mergeK [] (xs.filterMap f))) H1 Q) :
    ∀ D, H1 D = none → ∃ W : Nat → Nat → Hp → Prop, (∃ m, W 0 m (upd H1 D (.dK []))) ∧ ∀ i m H, W i m H →
      ((Itt K a).stop i H ∧ Q (.ref D) H) ∨ ((Itt K a).go i H ∧ ∃ Nx : Hp → Prop, (∀ H', Nx H' → ∃ m', m' < m ∧ W (i + 1) m' H') ∧ ∀ x H', (Itt K a).yld i H x H' → g x (wipe σ vs) H' fun σ2 H2 => wipe σ2 vs = wipe σ vs ∧ tt σ2 H2 fun b H3 =>
        if b = true then tk σ2 H3 fun y H4 => tv σ2 H4 fun z H5 => ∃ kvs k, y = kV k ∧ H5 D = some (.dK kvs) ∧ kvs.length < sizeLine ∧ Nx (upd H5 D (.dK (putK kvs k z))) else Nx H3) := by
  intro D hD
  have sq : ∀ H, Same H1 H → SqT K H a xs := fun H e => Evl.ex_t e hx
  refine dc_tup (K := K) (a := a) (xs := xs) (Qd := fun H => Q (.ref D) H) (fun i H => Same H1 H ∧ H D = some (.dK (mergeK [] ((xs.take i).filterMap f)))) ⟨fun b o e => by rw [upd_ne (ne_of_none e hD)]; exact e, upd_same⟩ (fun i H _ p => sq H p.1) ?_ ?_
  · intro i x H hi p
    obtain ⟨s1, d1⟩ := p
    have hm : x ∈ xs := List.mem_of_getElem? hi
    refine step x hm H s1 _ _ (fun k y hy H' e' => ?_) (fun hy H' e' => ?_)
    · refine ⟨_, k, rfl, e' _ _ d1, ?_, ?_, ?_⟩
      · have h0 := merge_length [] ((xs.take i).filterMap f)
        have h1 : ((xs.take i).filterMap f).length ≤ (xs.take i).length := List.length_filterMap_le f _
        have h2 : (xs.take i).length ≤ xs.length := by rw [List.length_take]; exact Nat.min_le_right ..
        have h3 : (100000 : Nat) < sizeLine := by decide
        simp only [List.length_nil] at h0
        omega
      · intro b o e
        rw [upd_ne (ne_of_none e hD)]
        exact e' _ _ (s1 _ _ e)
      · rw [upd_same, take_fmK hi, hy]
        show some (HO.dK _) = some (HO.dK (mergeK [] (_ ++ [(k, y)])))
        rw [merge_snoc]
    · refine ⟨Same.tr s1 e', ?_⟩
      rw [e' _ _ d1, take_fmK hi, hy]
      simp
  · intro H p
    obtain ⟨s1, d1⟩ := p
    rw [List.take_length] at d1
    exact fin D H s1 hD d1
def nDcT (j : Nat) (g : TG) (tt : TT) (tk tv : TE) (vs : List Nat) : TE := fun σ H Q => ∃ a xs, σ[j]? = some (some (.ref a)) ∧ H a = some (.tup xs) ∧ xs.length ≤ 100000 ∧ ∃ f, dcStep g tt tk tv vs σ xs f H ∧ newO (.dK (mergeK [] (xs.filterMap f))) H Q
theorem n_dcT {X : Cx} {e : Expr} {j : Nat} {g : TG} {tt : TT} {tk tv : TE} {vs : List Nat} (h : PE X e (tDc (iTup X.K (tVar j)) g tt tk tv vs)) : PE X e (nDcT j g tt tk tv vs) := PE.imp h fun σ H Q q => by
  obtain ⟨a, xs, h1, h2, h3, f, h4, h5⟩ := q
  exact ⟨_, h1, a, rfl, ⟨xs, SqT.of h2⟩, dc_fmT f (SqT.of h2) h3 h4 h5⟩
section
variable {X : Cx}
def rSortD : List V → Hp → VK → Prop := fun xs H Q => ∃ (a : Addr) (kvs : List (Key × V)) (ks : List Str), xs = [.ref a] ∧ H a = some (.dK kvs) ∧ kvs.map (·.1) = ks.map Sum.inr ∧ ks.length < 64 ∧ ∀ ys : List Str, ys.Perm ks → PyProof.Rows.sortedS ys = true → newO (.lst (ys.map V.str)) H Q
theorem sorted_d (hc : X.calm = true) : CallR X (.builtin "sorted") rSortD := CallR.imp (call_sortedD hc) fun xs H Q h => by
  obtain ⟨a, kvs, ks, rfl, hd, h1, h2, h3⟩ := h
  exact ⟨a, kvs, ks, rfl, .inl hd, h1, h2, fun ys p hp hs np => (h3 ys hp hs).at np⟩
def rTupL : List V → Hp → VK → Prop := fun xs H Q => ∃ p ys, xs = [.ref p] ∧ H p = some (.lst ys) ∧ newO (.tup ys) H Q
theorem tuple_l : CallR X (.type "tuple") rTupL := CallR.imp call_tuple_of fun xs H Q h => by
  obtain ⟨p, ys, rfl, hp, q⟩ := h
  exact ⟨p, ys, rfl, .inl ⟨SqL.of hp, fun l hl => q.at hl⟩⟩
def rListL : List V → Hp → VK → Prop := fun xs H Q => ∃ p ys, xs = [.ref p] ∧ H p = some (.lst ys) ∧ newO (.lst ys) H Q
theorem list_l : CallR X (.type "list") rListL := CallR.imp call_list_of fun xs H Q h => by
  obtain ⟨p, ys, rfl, hp, q⟩ := h
  exact ⟨p, ys, rfl, .inl (SqL.of hp), fun l hl => q.at hl⟩
end
theorem fl_n : flat4 .non = true := rfl
theorem fl_b {b : Bool} : flat4 (.bl b) = true := rfl
theorem fl_i {i : Int} : flat4 (.int i) = true := rfl
theorem fl_s {z : Str} : flat4 (.str z) = true := rfl
theorem fv_n : flatV .non = true := rfl
theorem fv_b {b : Bool} : flatV (.bl b) = true := rfl
theorem fv_i {i : Int} : flatV (.int i) = true := rfl
theorem fv_s {z : Str} : flatV (.str z) = true := rfl
theorem ii_n : isInt .non = false := rfl
theorem ii_b {b : Bool} : isInt (.bl b) = false := rfl
theorem ii_i {i : Int} : isInt (.int i) = true := rfl
theorem ii_s {z : Str} : isInt (.str z) = false := rfl
theorem ib_n : isBl .non = false := rfl
theorem ib_b {b : Bool} : isBl (.bl b) = true := rfl
theorem ib_i {i : Int} : isBl (.int i) = false := rfl
theorem ib_s {z : Str} : isBl (.str z) = false := rfl
theorem is_n : isStr .non = false := rfl
theorem is_b {b : Bool} : isStr (.bl b) = false := rfl
theorem is_i {i : Int} : isStr (.int i) = false := rfl
theorem is_s {z : Str} : isStr (.str z) = true := rfl
theorem im_n : isNum .non = false := rfl
theorem im_b {b : Bool} : isNum (.bl b) = true := rfl
theorem im_i {i : Int} : isNum (.int i) = true := rfl
theorem im_s {z : Str} : isNum (.str z) = false := rfl
theorem ti_i {i : Int} : toI (.int i) = i := rfl
theorem ti_t : toI (.bl true) = 1 := rfl
theorem ti_f : toI (.bl false) = 0 := rfl
theorem newO.ext {o : HO} {H H1 : Hp} {Q : VK} (h : newO o H Q) (e : Same H H1) : newO o H1 Q := fun p H' e' np hp => h p H' (Same.tr e e') (by
  cases q : H p with
  | none => rfl
  | some u =>
    rw [e _ _ q] at np
    cases np) hp
theorem Same.free' {H H1 : Hp} (e : Same H H1) {p : Addr} (h : H1 p = none) : H p = none := by
  cases q : H p with
  | none => rfl
  | some u =>
    rw [e _ _ q] at h
    cases h
theorem kTupLT {K : PySem.W.Frag} : PySem.W.kitAny K (.type "tuple") [.type "list", .type "tuple"] = some true := kitAny_cons (kit_ty kb16) (fun _ => kitAny_cons (kit_ty kb13) (fun h => nomatch h) (fun _ => rfl)) (fun h => nomatch h)
theorem kLstLT {K : PySem.W.Frag} : PySem.W.kitAny K (.type "list") [.type "list", .type "tuple"] = some true := kitAny_cons (kit_ty kb15) (fun h => nomatch h) (fun _ => rfl)
/-! ### for loops, slices, sums of lists -/
def forW (K : PySem.W.Frag) (a : Addr) (g : TG) (tb : TS) (D : Ends) (σ : L2.St) (H1 : Hp) : Prop := ∃ W : Nat → Nat → L2.St → Hp → Prop, (∃ m, W 0 m σ H1) ∧ ∀ i m σ H, W i m σ H →
  ((Itl K a).stop i H ∧ D.nx σ H) ∨ ((Itl K a).go i H ∧ ∃ N : L2.St → Hp → Prop, (∀ σ' H', N σ' H' → ∃ m', m' < m ∧ W (i + 1) m' σ' H') ∧ ∀ x H', (Itl K a).yld i H x H' → g x σ H' fun σ2 H2 => tb { D with nx := N, ct := N, bk := D.nx } σ2 H2)
def nForL (K : PySem.W.Frag) (te : TE) (g : TG) (tb : TS) : TS := fun D σ H => te σ H fun x H1 => ∃ a, x = .ref a ∧ (∃ xs, SqL K H1 a xs) ∧ forW K a g tb D σ H1
theorem n_forL {X : Cx} {st : Stmt} {te : TE} {g : TG} {tb : TS} (h : PS X st (tFor (iList X.K te) g tb)) : PS X st (nForL X.K te g tb) := h
theorem forW_by {K : PySem.W.Frag} {a : Addr} {xs : List V} {g : TG} {tb : TS} {D : Ends} {σ : L2.St} {H : Hp} (Pv : Nat → L2.St → Hp → Prop) (h0 : Pv 0 σ H) (hl : ∀ i σ H, i ≤ xs.length → Pv i σ H → SqL K H a xs)
    (hs : ∀ i x σ H, xs[i]? = some x → Pv i σ H → g x σ H fun σ2 H2 => tb { D with nx := Pv (i + 1), ct := Pv (i + 1), bk := D.nx } σ2 H2) (hd : ∀ σ H, Pv xs.length σ H → D.nx σ H) : forW K a g tb D σ H := for_list Pv h0 hl hs hd
def forR (lo : Int) (n : Nat) (g : TG) (tb : TS) (D : Ends) (σ : L2.St) (H1 : Hp) : Prop := ∃ W : Nat → Nat → L2.St → Hp → Prop, (∃ m, W 0 m σ H1) ∧ ∀ i m σ H, W i m σ H →
  ((Itr lo n).stop i H ∧ D.nx σ H) ∨ ((Itr lo n).go i H ∧ ∃ N : L2.St → Hp → Prop, (∀ σ' H', N σ' H' → ∃ m', m' < m ∧ W (i + 1) m' σ' H') ∧ ∀ x H', (Itr lo n).yld i H x H' → g x σ H' fun σ2 H2 => tb { D with nx := N, ct := N, bk := D.nx } σ2 H2)
def nForR (ta : TA) (g : TG) (tb : TS) : TS := fun D σ H => ta σ H fun vs H1 => ∃ j : Int, vs = [.int j] ∧ -(2 ^ 62) ≤ j ∧ j < 2 ^ 62 ∧ forR 0 j.toNat g tb D σ H1
theorem n_forR {X : Cx} {st : Stmt} {ta : TA} {g : TG} {tb : TS} (h : PS X st (tFor (iRng1 ta) g tb)) : PS X st (nForR ta g tb) := h
theorem forR_by {lo : Int} {n : Nat} {g : TG} {tb : TS} {D : Ends} {σ : L2.St} {H : Hp} (Pv : Nat → L2.St → Hp → Prop) (h0 : Pv 0 σ H)
    (hs : ∀ i σ H, i < n → Pv i σ H → g (.int (lo + i)) σ H fun σ2 H2 => tb { D with nx := Pv (i + 1), ct := Pv (i + 1), bk := D.nx } σ2 H2) (hd : ∀ σ H, Pv n σ H → D.nx σ H) : forR lo n g tb D σ H := for_range Pv h0 hs hd
/-- a comprehension over range(n), its turns by an invariant -/
def lcR (n : Nat) (g : TG) (tt : TT) (te : TE) (vs : List Nat) (σ : L2.St) (H1 : Hp) (Q : VK) : Prop := ∀ D, H1 D = none → ∃ W : Nat → Nat → Hp → Prop, (∃ m, W 0 m (upd H1 D (.lst []))) ∧ ∀ i m H, W i m H →
  ((Itr 0 n).stop i H ∧ Q (.ref D) H) ∨ ((Itr 0 n).go i H ∧ ∃ Nx : Hp → Prop, (∀ H', Nx H' → ∃ m', m' < m ∧ W (i + 1) m' H') ∧ ∀ x H', (Itr 0 n).yld i H x H' → g x (wipe σ vs) H' fun σ2 H2 => wipe σ2 vs = wipe σ vs ∧ tt σ2 H2 fun b H3 =>
    if b = true then te σ2 H3 fun y H4 => ∃ acc, H4 D = some (.lst acc) ∧ acc.length < sizeLine ∧ Nx (upd H4 D (.lst (acc ++ [y]))) else Nx H3)
def nLcR (ta : TA) (g : TG) (tt : TT) (te : TE) (vs : List Nat) : TE := fun σ H Q => ta σ H fun ws H1 => ∃ j : Int, ws = [.int j] ∧ -(2 ^ 62) ≤ j ∧ j < 2 ^ 62 ∧ lcR j.toNat g tt te vs σ H1 Q
theorem n_setR {X : Cx} {st : Stmt} {i : Nat} {ta : TA} {g : TG} {tt : TT} {te : TE} {vs : List Nat} (h : PS X st (tAsg (tLc (iRng1 ta) g tt te vs) (gName i))) : PS X st (tAsg (nLcR ta g tt te vs) (gName i)) := h
theorem n_lcR {X : Cx} {e : Expr} {ta : TA} {g : TG} {tt : TT} {te : TE} {vs : List Nat} (h : PE X e (tLc (iRng1 ta) g tt te vs)) : PE X e (nLcR ta g tt te vs) := h
theorem lcR_by {n : Nat} {g : TG} {tt : TT} {te : TE} {vs : List Nat} {σ : L2.St} {H1 : Hp} {Q : VK} (Pv : Addr → Nat → Hp → Prop) (h0 : ∀ D, H1 D = none → Pv D 0 (upd H1 D (.lst [])))
    (hs : ∀ D i H, H1 D = none → i < n → Pv D i H → g (.int (0 + i)) (wipe σ vs) H fun σ2 H2 => wipe σ2 vs = wipe σ vs ∧ tt σ2 H2 fun b H3 =>
      if b = true then te σ2 H3 fun y H4 => ∃ acc, H4 D = some (.lst acc) ∧ acc.length < sizeLine ∧ Pv D (i + 1) (upd H4 D (.lst (acc ++ [y]))) else Pv D (i + 1) H3) (hd : ∀ D H, H1 D = none → Pv D n H → Q (.ref D) H) : lcR n g tt te vs σ H1 Q :=
  fun D hD => lc_range (Pv D) (h0 D hD) (fun i H hi p => hs D i H hD hi p) fun H p => hd D H hD p
section
variable {X : Cx}
theorem SlR.imp {r r' : V → Option Int → Option Int → Hp → VK → Prop} (h : SlR X r) (i : ∀ x l u H Q, r' x l u H Q → r x l u H Q) : SlR X r' := fun pins s σ H x v vl vu lo hi sl Q I rx hs pl pu q => h pins s σ H x v vl vu lo hi sl Q I rx hs pl pu (i _ _ _ _ _ q)
def rSlN (K : PySem.W.Frag) : V → Option Int → Option Int → Hp → VK → Prop := fun x lo hi H Q => ∃ a xs, x = .ref a ∧ SqL K H a xs ∧ newO (.lst (cutV xs lo hi)) H Q
theorem sl_l : SlR X (rSlN X.K) := SlR.imp sl_list fun x l u H Q h => by
  obtain ⟨a, xs, h1, h2, h3⟩ := h
  exact ⟨a, xs, h1, h2, fun p hp => h3.at hp⟩
def rCatN : R2 := fun x y H Q => ∃ l b xs zs, x = .ref l ∧ y = .ref b ∧ H l = some (.lst xs) ∧ H b = some (.lst zs) ∧ xs.length + zs.length ≤ 100000 ∧ newO (.lst (xs ++ zs)) H Q
theorem cat_l : OpR X (binaryOp .Add) rCatN := OpR.imp op_cat fun x y H Q h => by
  obtain ⟨l, b, xs, zs, h1, h2, h3, h4, h5, h6⟩ := h
  exact ⟨l, b, xs, zs, h1, h2, h3, h4, sz_of h5, fun p hp => h6.at hp⟩
end
/-! ### wells: lists of three ints that are drawn from -/
/-- all but what stands at W is kept -/
def SameX (W : Addr) (H H' : Hp) : Prop := ∀ b o, b ≠ W → H b = some o → H' b = some o
theorem SameX.of {W : Addr} {H H' : Hp} (h : Same H H') : SameX W H H' := fun b o _ e => h b o e
theorem SameX.tr {W : Addr} {H H1 H2 : Hp} (a : SameX W H H1) (b : SameX W H1 H2) : SameX W H H2 := fun x o n h => b x o n (a x o n h)
theorem SameX.upd {W : Addr} {H : Hp} {o : HO} : SameX W H (upd H W o) := fun b u n e => by rw [upd_ne n]; exact e
def IsWell (H : Hp) (W : Addr) (n : Int) : Prop := ∃ a b c : Int, H W = some (.lst [.int a, .int b, .int c]) ∧ 0 ≤ a ∧ 0 ≤ b ∧ b < 2147483647 ∧ 0 ≤ c ∧ 0 ≤ n ∧ c + n ≤ 1000000000
theorem IsWell.mono {H H' : Hp} {W : Addr} {n : Int} (h : IsWell H W n) (e : Same H H') : IsWell H' W n := by
  obtain ⟨a, b, c, h1, h2⟩ := h
  exact ⟨a, b, c, e _ _ h1, h2⟩
theorem IsWell.less {H : Hp} {W : Addr} {n m : Int} (h : IsWell H W n) (h0 : 0 ≤ m) (e : m ≤ n) : IsWell H W m := by
  obtain ⟨a, b, c, h1, h2, h3, h4, h5, h6, h7⟩ := h
  exact ⟨a, b, c, h1, h2, h3, h4, h5, h0, by omega⟩
def sp_well (n : Int) : Sp := fun vs H Q _ => ∃ i, vs = [.int i] ∧ ∀ p H', Same H H' → H p = none → IsWell H' p n → Q (.ref p) H'
def sp_draw : Sp := fun vs H Q _ => ∃ W m n, vs = [.ref W, .int m] ∧ 1 ≤ m ∧ m < 2 ^ 64 ∧ IsWell H W n ∧ 1 ≤ n ∧ ∀ v H', SameX W H H' → IsWell H' W (n - 1) → 0 ≤ v → v < m → Q (.int v) H'
def sp_one : Sp := fun vs H Q _ => ∃ W L xs n, vs = [.ref W, .ref L] ∧ H L = some (.lst xs) ∧ L ≠ W ∧ 0 < xs.length ∧ xs.length ≤ 1000 ∧ IsWell H W n ∧ 1 ≤ n ∧ ∀ v H', SameX W H H' → IsWell H' W (n - 1) → v ∈ xs → Q v H'
theorem divW_small {i j : Int} (h : 1 ≤ j) (h2 : j < 2 ^ 64) : CDivW i j := by
  refine ⟨by omega, ?_⟩
  have h3 : j.natAbs < 2 ^ 64 := by omega
  have hj : j.natAbs ≠ 0 := by omega
  have := (Nat.log2_lt hj).mpr h3
  omega
theorem at3_0 {x y z : V} : atI [x, y, z] 0 = some x := rfl
theorem at3_1 {x y z : V} : atI [x, y, z] 1 = some y := rfl
theorem at3_2 {x y z : V} : atI [x, y, z] 2 = some z := rfl
theorem ix3_0 : ixN 3 0 = some 0 := rfl
theorem ix3_1 : ixN 3 1 = some 1 := rfl
theorem ix3_2 : ixN 3 2 = some 2 := rfl
theorem at2_0 {x y : V} : atI [x, y] 0 = some x := rfl
theorem at2_1 {x y : V} : atI [x, y] 1 = some y := rfl
theorem at1_0 {x : V} : atI [x] 0 = some x := rfl
theorem at5_0 {a b c d e : V} : atI [a, b, c, d, e] 0 = some a := rfl
theorem at5_1 {a b c d e : V} : atI [a, b, c, d, e] 1 = some b := rfl
theorem at5_2 {a b c d e : V} : atI [a, b, c, d, e] 2 = some c := rfl
theorem at5_3 {a b c d e : V} : atI [a, b, c, d, e] 3 = some d := rfl
theorem at5_4 {a b c d e : V} : atI [a, b, c, d, e] 4 = some e := rfl
theorem eqD_same {K : PySem.W.Frag} {H : Hp} {x y : V} {d : PyData} {Q : VK} (hx : Dp K H x d) (hy : Dp K H y d) (hs : SeqAt.shaped d = true) (q : Q (.bl true) H) : rEqD K x y H Q := ⟨d, d, hx, hy, hs, hs, by rw [SeqAt.eqv_refl d (SeqAt.canLay_of_shaped hs)]; exact q⟩
end Tw

namespace Tw
open PySem L2
/-! ### numbers: tens, count_digits -/
theorem lg10 (f : Nat) : ((10 : Int) ^ f).natAbs.log2 ≤ 4 * f := by
  have h : (10 : Int) ^ f = ((10 ^ f : Nat) : Int) := by simp
  rw [h, Int.natAbs_natCast]
  have hp : (10 : Nat) ^ f ≠ 0 := Nat.ne_of_gt (Nat.pow_pos (by decide))
  have hl : (10 : Nat) ^ f < 2 ^ (4 * f + 1) := by
    rw [Nat.pow_succ, Nat.pow_mul]
    have : (10 : Nat) ^ f ≤ (2 ^ 4) ^ f := Nat.pow_le_pow_left (by decide) f
    have hq : 0 < ((2 : Nat) ^ 4) ^ f := Nat.pow_pos (by decide)
    omega
  have := (Nat.log2_lt hp).mpr hl
  omega
theorem mulW10 {a b : Nat} (h : a + b < 240000) : CMulW ((10 : Int) ^ a) ((10 : Int) ^ b) := by
  have h1 := lg10 a
  have h2 := lg10 b
  show _ + _ < 1000000
  omega
def sp_tens : Sp := fun vs H Q _ => ∃ n : Nat, vs = [.int n] ∧ n ≤ 100000 ∧ ∀ H', Same H H' → Q (.int ((10 : Int) ^ n)) H'
/-! ### Decimals -/
def expOk : V → Bool
  | .int _ => true
  | .str z => decide (z = "F") || decide (z = "n") || decide (z = "N")
  | _ => false
def sp_is_exponent : Sp := fun vs H Q _ => ∃ x, vs = [x] ∧ flat4 x = true ∧ ∀ H', Same H H' → Q (.bl (expOk x)) H'
/-- an exponent as a value: an int, or a text -/
def ScE (e : V) : Prop := (∃ n, e = .int n) ∨ ∃ z, e = .str z
theorem ScE.scal {e : V} (h : ScE e) (z : Str) : scal e (.str z) = true := by
  rcases h with ⟨n, rfl⟩ | ⟨y, rfl⟩ <;> rfl
theorem ScE.flat {e : V} (h : ScE e) : flat4 e = true := by
  rcases h with ⟨n, rfl⟩ | ⟨y, rfl⟩ <;> rfl
theorem ScE.of {e : V} (h : expOk e = true) : ScE e := by
  cases e with
  | int n => exact .inl ⟨n, rfl⟩
  | str z => exact .inr ⟨z, rfl⟩
  | _ => cases h
def decF (s c : Int) (e : V) : List (Str × V) := [("sign", .int s), ("coefficient", .int c), ("exponent", e)]
/-- at v stands a Decimal -/
def DecAt (K : PySem.W.Frag) (H : Hp) (v : V) (s c : Int) (e : V) : Prop := ∃ p dx, v = .ref p ∧ H p = some (.ins (He.ga K "Decimal") dx (decF s c e))
theorem DecAt.mono {K : PySem.W.Frag} {H H' : Hp} {v : V} {s c : Int} {e : V} (h : DecAt K H v s c e) (x : Same H H') : DecAt K H' v s c e := by
  obtain ⟨p, dx, h1, h2⟩ := h
  exact ⟨p, dx, h1, x _ _ h2⟩
structure GoodD (s c : Int) (e : V) : Prop where
  sg : s = 0 ∨ s = 1
  co : 0 ≤ c
  ex : expOk e = true
  inf : e = .str "F" → c = 0
def decOk (args : List V) (fs : List (Str × V)) : Prop := ∃ s c e, args = [.int s, .int c, e] ∧ GoodD s c e ∧ fs = decF s c e
def sp_Decimal___init__ (K : PySem.W.Frag) : Sp := spIn (He.ga K "Decimal") decOk
/-! ### questions about Decimals -/
def isF (e : V) : Bool := decide (e = .str "F")
def isN (e : V) : Bool := decide (e = .str "n") || decide (e = .str "N")
/-- at v stands a Decimal whose parts are good -/
structure DecG (K : PySem.W.Frag) (H : Hp) (v : V) (s c : Int) (e : V) : Prop where
  at_ : DecAt K H v s c e
  good : GoodD s c e
theorem DecG.mono {K : PySem.W.Frag} {H H' : Hp} {v : V} {s c : Int} {e : V} (h : DecG K H v s c e) (x : Same H H') : DecG K H' v s c e := ⟨h.at_.mono x, h.good⟩
def sp_is_finite (K : PySem.W.Frag) : Sp := fun vs H Q _ => ∃ v s c e, vs = [v] ∧ DecG K H v s c e ∧ Q (.bl (isInt e)) H
def sp_is_infinite (K : PySem.W.Frag) : Sp := fun vs H Q _ => ∃ v s c e, vs = [v] ∧ DecG K H v s c e ∧ Q (.bl (isF e)) H
def sp_is_nan (K : PySem.W.Frag) : Sp := fun vs H Q _ => ∃ v s c e, vs = [v] ∧ DecG K H v s c e ∧ Q (.bl (isN e)) H
def sp_is_signaling (K : PySem.W.Frag) : Sp := fun vs H Q _ => ∃ v s c e, vs = [v] ∧ DecG K H v s c e ∧ Q (.bl (decide (e = .str "N"))) H
def sp_is_zero (K : PySem.W.Frag) : Sp := fun vs H Q _ => ∃ v s c e, vs = [v] ∧ DecG K H v s c e ∧ Q (.bl (isInt e && decide (c = 0))) H
theorem lk_sign (s c : Int) (e : V) : (decF s c e).lookup ("sign" : Str) = some (.int s) := rfl
theorem lk_coef (s c : Int) (e : V) : (decF s c e).lookup ("coefficient" : Str) = some (.int c) := rfl
theorem lk_exp (s c : Int) (e : V) : (decF s c e).lookup ("exponent" : Str) = some e := rfl
/-! ### Rules -/
structure Ru where
  prec : Int
  rnd : Str
  emin : Int
  emax : Int
  clamp : Int
def Ru.etiny (r : Ru) : Int := r.emin - r.prec + 1
def Ru.etop (r : Ru) : Int := r.emax - r.prec + 1
def ruF (r : Ru) : List (Str × V) := [("prec", .int r.prec), ("rounding", .str r.rnd), ("emin", .int r.emin), ("emax", .int r.emax), ("clamp", .int r.clamp)]
theorem lk_prec (r : Ru) : (ruF r).lookup ("prec" : Str) = some (.int r.prec) := rfl
theorem lk_rnd (r : Ru) : (ruF r).lookup ("rounding" : Str) = some (.str r.rnd) := rfl
theorem lk_emin (r : Ru) : (ruF r).lookup ("emin" : Str) = some (.int r.emin) := rfl
theorem lk_emax (r : Ru) : (ruF r).lookup ("emax" : Str) = some (.int r.emax) := rfl
theorem lk_clamp (r : Ru) : (ruF r).lookup ("clamp" : Str) = some (.int r.clamp) := rfl
theorem lk_etiny (r : Ru) : (ruF r).lookup ("etiny" : Str) = none := rfl
theorem lk_etop (r : Ru) : (ruF r).lookup ("etop" : Str) = none := rfl
def RuAt (K : PySem.W.Frag) (H : Hp) (v : V) (r : Ru) : Prop := ∃ p dx, v = .ref p ∧ H p = some (.ins (He.ga K "Rules") dx (ruF r))
theorem RuAt.mono {K : PySem.W.Frag} {H H' : Hp} {v : V} {r : Ru} (h : RuAt K H v r) (x : Same H H') : RuAt K H' v r := by
  obtain ⟨p, dx, h1, h2⟩ := h
  exact ⟨p, dx, h1, x _ _ h2⟩
def ruOk (args : List V) (fs : List (Str × V)) : Prop := ∃ r : Ru, args = [.int r.prec, .str r.rnd, .int r.emin, .int r.emax, .int r.clamp] ∧ fs = ruF r
def sp_etiny (K : PySem.W.Frag) : Sp := fun vs H Q _ => ∃ v r, vs = [v] ∧ RuAt K H v r ∧ Q (.int r.etiny) H
def sp_etop (K : PySem.W.Frag) : Sp := fun vs H Q _ => ∃ v r, vs = [v] ∧ RuAt K H v r ∧ Q (.int r.etop) H
/-! ### zeros finished -/
/-- a result and its conditions, as a tuple -/
def OutAt (K : PySem.W.Frag) (H : Hp) (v : V) (s c : Int) (e : V) (ws : List Str) : Prop := ∃ p d q, v = .ref p ∧ H p = some (.tup [d, .ref q]) ∧ DecG K H d s c e ∧ H q = some (.tup (ws.map V.str))
theorem OutAt.mono {K : PySem.W.Frag} {H H' : Hp} {v : V} {s c : Int} {e : V} {ws : List Str} (h : OutAt K H v s c e ws) (x : Same H H') : OutAt K H' v s c e ws := by
  obtain ⟨p, d, q, h1, h2, h3, h4⟩ := h
  exact ⟨p, d, q, h1, x _ _ h2, h3.mono x, x _ _ h4⟩
def zTop (r : Ru) : Int := if r.clamp = 1 then r.etop else r.emax
def zExp (r : Ru) (e : Int) : Int := min (max e r.etiny) (zTop r)
def zWords (r : Ru) (e : Int) : List Str := if zExp r e = e then [] else ["Clamped"]
theorem goodI {s c e : Int} (hs : s = 0 ∨ s = 1) (hc : 0 ≤ c) : GoodD s c (.int e) := ⟨hs, hc, rfl, fun h => nomatch h⟩
def sp_finish_zero (K : PySem.W.Frag) : Sp := fun vs H Q _ => ∃ rv r s e, vs = [rv, .int s, .int e] ∧ RuAt K H rv r ∧ (s = 0 ∨ s = 1) ∧ ∀ v H', Same H H' → OutAt K H' v s 0 (.int (zExp r e)) (zWords r e) → Q v H'
def sp_finish_parts (K : PySem.W.Frag) : Sp := fun vs H Q _ => ∃ rv r s e, vs = [rv, .int s, .int 0, .int e] ∧ RuAt K H rv r ∧ (s = 0 ∨ s = 1) ∧ ∀ v H', Same H H' → OutAt K H' v s 0 (.int (zExp r e)) (zWords r e) → Q v H'
def sp_finish (K : PySem.W.Frag) : Sp := fun vs H Q _ => ∃ rv a r s e, vs = [rv, a] ∧ RuAt K H rv r ∧ DecG K H a s 0 (.int e) ∧ ∀ v H', Same H H' → OutAt K H' v s 0 (.int (zExp r e)) (zWords r e) → Q v H'
/-! ### plus, minus, absolute of zeros -/
def sp_nan_of (K : PySem.W.Frag) : Sp := fun vs H Q _ => ∃ rv lp a s c n, vs = [rv, .ref lp] ∧ H lp = some (.lst [a]) ∧ DecG K H a s c (.int n) ∧ ∀ H', Same H H' → Q .non H'
/-- the sign that a zero is told with -/
def zSign (r : Ru) (s : Int) : Int := if r.rnd = "floor" then s else 0
def sp_with_sign_sums (K : PySem.W.Frag) : Sp := fun vs H Q _ => ∃ rv a r s0 s n, vs = [rv, a, .int s] ∧ RuAt K H rv r ∧ DecG K H a s0 0 (.int n) ∧ (s = 0 ∨ s = 1) ∧ ∀ v H', Same H H' → OutAt K H' v (zSign r s) 0 (.int (zExp r n)) (zWords r n) → Q v H'
def sp_un (K : PySem.W.Frag) (f : Int → Int) : Sp := fun vs H Q _ => ∃ rv a r s n, vs = [rv, a] ∧ RuAt K H rv r ∧ DecG K H a s 0 (.int n) ∧ ∀ v H', Same H H' → OutAt K H' v (zSign r (f s)) 0 (.int (zExp r n)) (zWords r n) → Q v H'
/-! ### contexts and told -/
def ctxF (tr ra : Addr) (r : Ru) (cap : Int) (rv : V) : List (Str × V) := [("trapped", .ref tr), ("raised", .ref ra), ("prec", .int r.prec), ("rounding", .str r.rnd), ("emin", .int r.emin), ("emax", .int r.emax), ("capitals", .int cap), ("clamp", .int r.clamp), ("rules", rv)]
theorem lk_rules (tr ra : Addr) (r : Ru) (cap : Int) (rv : V) : (ctxF tr ra r cap rv).lookup ("rules" : Str) = some rv := rfl
theorem lk_told (tr ra : Addr) (r : Ru) (cap : Int) (rv : V) : (ctxF tr ra r cap rv).lookup ("told" : Str) = none := rfl
def CtxAt (K : PySem.W.Frag) (H : Hp) (v : V) (r : Ru) : Prop := ∃ p dx tr ra cap rv, v = .ref p ∧ H p = some (.ins (He.ga K "Context") dx (ctxF tr ra r cap rv)) ∧ RuAt K H rv r
theorem CtxAt.mono {K : PySem.W.Frag} {H H' : Hp} {v : V} {r : Ru} (h : CtxAt K H v r) (x : Same H H') : CtxAt K H' v r := by
  obtain ⟨p, dx, tr, ra, cap, rv, h1, h2, h3⟩ := h
  exact ⟨p, dx, tr, ra, cap, rv, h1, x _ _ h2, h3.mono x⟩
def tQUESTIONS : List V := ([V.str "is_finite", V.str "is_infinite", V.str "is_nan", V.str "is_qnan", V.str "is_snan", V.str "is_signed", V.str "is_zero", V.str "is_canonical"] : List V)
def sp_decimal_of (K : PySem.W.Frag) : Sp := fun vs H Q _ => ∃ v s c e, vs = [v] ∧ DecG K H v s c e ∧ Q v H
def sigOf (z : Str) : Str := if z = "InvalidOperation" ∨ z = "ConversionSyntax" ∨ z = "DivisionImpossible" ∨ z = "DivisionUndefined" then "InvalidOperation" else z
def sp_signal_of : Sp := fun vs H Q _ => ∃ z, vs = [.str z] ∧ Q (.str (sigOf z)) H
/-- the three operations of one operand, as they act on the sign of a zero -/
inductive Op1 : Str → (Int → Int) → Prop where
  | plus : Op1 "plus" fun s => s
  | minus : Op1 "minus" fun s => 1 - s
  | absolute : Op1 "absolute" fun _ => 0
def sp_with_one (K : PySem.W.Frag) : Sp := fun vs H Q _ => ∃ rv z a r s n f, vs = [rv, .str z, a] ∧ Op1 z f ∧ RuAt K H rv r ∧ DecG K H a s 0 (.int n) ∧ ∀ v H', Same H H' → OutAt K H' v (zSign r (f s)) 0 (.int (zExp r n)) (zWords r n) → Q v H'
def sp_outcome_of (K : PySem.W.Frag) : Sp := fun vs H Q _ => ∃ rv z tp a r s n f, vs = [rv, .str z, .ref tp] ∧ H tp = some (.tup [a]) ∧ Op1 z f ∧ RuAt K H rv r ∧ DecG K H a s 0 (.int n) ∧ ∀ v H', Same H H' → OutAt K H' v (zSign r (f s)) 0 (.int (zExp r n)) (zWords r n) → Q v H'
def sp_is_operation1 : Sp := fun vs H Q _ => ∃ z f, vs = [.str z, .int 1] ∧ Op1 z f ∧ Q (.bl true) H
def sp_told (K : PySem.W.Frag) : Sp := fun vs H Q _ => ∃ cv z tp a r s n f, vs = [cv, .str z, .ref tp] ∧ CtxAt K H cv r ∧ H tp = some (.tup [a]) ∧ Op1 z f ∧ DecG K H a s 0 (.int n) ∧ ∀ v H', Same H H' → OutAt K H' v (zSign r (f s)) 0 (.int (zExp r n)) (zWords r n) → Q v H'
def sp_check_between : Sp := fun vs H Q _ => ∃ i lo hi z, vs = [.int i, .int lo, .int hi, .str z] ∧ lo ≤ i ∧ i ≤ hi ∧ Q .non H
def sp_names_of0 : Sp := fun vs H Q _ => ∃ tp z, vs = [.ref tp, .str z] ∧ H tp = some (.tup []) ∧ newO (.lst []) H Q
def rounds : List V := ([V.str "up", V.str "down", V.str "ceiling", V.str "floor", V.str "half_up", V.str "half_down", V.str "half_even", V.str "05up"] : List V)
structure GoodR (r : Ru) (cap : Int) : Prop where
  p1 : 1 ≤ r.prec
  p2 : r.prec ≤ 999999999999999999
  rn : inV (.str r.rnd) rounds = true
  l1 : -999999999999999999 ≤ r.emin
  l2 : r.emin ≤ 0
  h1 : 0 ≤ r.emax
  h2 : r.emax ≤ 999999999999999999
  c1 : 0 ≤ cap
  c2 : cap ≤ 1
  f1 : 0 ≤ r.clamp
  f2 : r.clamp ≤ 1
def sp_ctx0 (K : PySem.W.Frag) : Sp := fun vs H Q _ => ∃ (H0 : Hp) (p dx : Addr) (r : Ru) (cap : Int) (tp : Addr), vs = [.ref p, .int r.prec, .str r.rnd, .int r.emin, .int r.emax, .int cap, .int r.clamp, .ref tp] ∧ Same H0 H ∧ H0 p = none ∧ H p = some (.ins (He.ga K "Context") dx []) ∧
  H tp = some (.tup []) ∧ GoodR r cap ∧ ∀ H' tr ra rv, Same H0 H' → H' p = some (.ins (He.ga K "Context") dx (ctxF tr ra r cap rv)) → H' tr = some (.lst []) → H' ra = some (.lst []) → RuAt K H' rv r → Q .non H'
/-! ### the helpers of the laws on contexts -/
def tupR (r : Ru) : List V := [.int r.prec, .str r.rnd, .int r.emin, .int r.emax, .int r.clamp]
structure SmallR (r : Ru) (most : Int) : Prop where
  p1 : 1 ≤ r.prec
  p2 : r.prec ≤ most
  rn : V.str r.rnd ∈ rounds
  l1 : -9 ≤ r.emin
  l2 : r.emin ≤ 0
  h1 : 0 ≤ r.emax
  h2 : r.emax ≤ 9
  f1 : 0 ≤ r.clamp
  f2 : r.clamp ≤ 1
def sp_law_ways : Sp := fun vs H Q _ => vs = [] ∧ newO (.lst rounds) H Q
def sp_law_rules : Sp := fun vs H Q _ => ∃ W m n, vs = [.ref W, .int m] ∧ 1 ≤ m ∧ m ≤ 1000 ∧ IsWell H W n ∧ 5 ≤ n ∧ ∀ p r H', SameX W H H' → IsWell H' W (n - 5) → SmallR r m → H' p = some (.tup (tupR r)) → p ≠ W → Q (.ref p) H'
def sp_law_context (K : PySem.W.Frag) : Sp := fun vs H Q _ => ∃ p r, vs = [.ref p] ∧ H p = some (.tup (tupR r)) ∧ SmallR r 1000 ∧ ∀ v H', Same H H' → CtxAt K H' v r → Q v H'
def sp_law_parts (K : PySem.W.Frag) : Sp := fun vs H Q _ => ∃ v s c e, vs = [v] ∧ DecG K H v s c e ∧ newO (.tup [.int s, .int c, e]) H Q
def sp_law_zero_right (K : PySem.W.Frag) : Sp := fun vs H Q _ => ∃ p r s n v, vs = [.ref p, .int s, .int n, v] ∧ H p = some (.tup (tupR r)) ∧ OutAt K H v s 0 (.int (zExp r n)) (zWords r n) ∧ r.etiny ≤ zTop r ∧ ∀ H', Same H H' → Q (.bl true) H'
def sp_law (K : PySem.W.Frag) : Sp := fun vs H Q _ => ∃ (a : Addr) (ns : List Int), vs = [.ref a] ∧ SqL K H a (ns.map V.int) ∧ ns.length ≤ 63 ∧ ∀ H', Q (.bl true) H'
end Tw

namespace Tw
open PySem L2
def top (i : Nat) : Stmt := PySem.Challenge.pw_tenwhole_k14_zeros_finished.main.body.getD i (.Pass ⟨0, 0, 0, 0⟩)
abbrev s_tens : Stmt := top 37
abbrev s_is_integer : Stmt := top 27
abbrev s_is_exponent : Stmt := top 28
abbrev s_Decimal___init__ : Stmt := inClass (top 26) 0
abbrev s_is_finite : Stmt := top 29
abbrev s_is_infinite : Stmt := top 30
abbrev s_is_nan : Stmt := top 31
abbrev s_is_signaling : Stmt := top 32
abbrev s_is_zero : Stmt := top 33
abbrev s_decimal_of : Stmt := top 34
abbrev s_Rules___init__ : Stmt := inClass (top 44) 0
abbrev s_Rules_etiny : Stmt := inClass (top 44) 1
abbrev s_Rules_etop : Stmt := inClass (top 44) 2
abbrev s_finish_zero : Stmt := top 48
abbrev s_finish_parts : Stmt := top 50
abbrev s_finish : Stmt := top 53
abbrev s_nan_of : Stmt := top 54
abbrev s_with_sign_sums : Stmt := top 186
abbrev s_plus : Stmt := top 188
abbrev s_minus : Stmt := top 189
abbrev s_absolute : Stmt := top 190
abbrev s_with_one : Stmt := top 206
abbrev s_outcome_of : Stmt := top 205
abbrev s_is_operation : Stmt := top 204
abbrev s_signal_of : Stmt := top 19
abbrev s_Context___init__ : Stmt := inClass (top 213) 0
abbrev s_Context_told : Stmt := inClass (top 213) 10
abbrev s_check_between : Stmt := top 214
abbrev s_names_of : Stmt := top 215
abbrev s__law_well : Stmt := top 217
abbrev s__law_draw : Stmt := top 218
abbrev s__law_one : Stmt := top 219
abbrev s__law_parts : Stmt := top 221
abbrev s__law_ways : Stmt := top 222
abbrev s__law_rules : Stmt := top 223
abbrev s__law_context : Stmt := top 224
abbrev s__law_zero_right : Stmt := top 225
abbrev s_law : Stmt := top 226
theorem sc_tens : FnScope ["many", "found", "base"] ["many"] (defScope s_tens) := ⟨rfl, rfl, rfl, by decide +kernel, rfl, by decide +kernel, by decide +kernel⟩
theorem sc_is_integer : FnScope ["thing"] ["thing"] (defScope s_is_integer) := ⟨rfl, rfl, rfl, by decide +kernel, rfl, by decide +kernel, by decide +kernel⟩
theorem sc_is_exponent : FnScope ["thing"] ["thing"] (defScope s_is_exponent) := ⟨rfl, rfl, rfl, by decide +kernel, rfl, by decide +kernel, by decide +kernel⟩
theorem sc_Decimal___init__ : FnScope ["self", "sign", "coefficient", "exponent"] ["self", "sign", "coefficient", "exponent"] (defScope s_Decimal___init__) := ⟨rfl, rfl, rfl, by decide +kernel, rfl, by decide +kernel, by decide +kernel⟩
theorem sc_is_finite : FnScope ["a"] ["a"] (defScope s_is_finite) := ⟨rfl, rfl, rfl, by decide +kernel, rfl, by decide +kernel, by decide +kernel⟩
theorem sc_is_infinite : FnScope ["a"] ["a"] (defScope s_is_infinite) := ⟨rfl, rfl, rfl, by decide +kernel, rfl, by decide +kernel, by decide +kernel⟩
theorem sc_is_nan : FnScope ["a"] ["a"] (defScope s_is_nan) := ⟨rfl, rfl, rfl, by decide +kernel, rfl, by decide +kernel, by decide +kernel⟩
theorem sc_is_signaling : FnScope ["a"] ["a"] (defScope s_is_signaling) := ⟨rfl, rfl, rfl, by decide +kernel, rfl, by decide +kernel, by decide +kernel⟩
theorem sc_is_zero : FnScope ["a"] ["a"] (defScope s_is_zero) := ⟨rfl, rfl, rfl, by decide +kernel, rfl, by decide +kernel, by decide +kernel⟩
theorem sc_decimal_of : FnScope ["operand"] ["operand"] (defScope s_decimal_of) := ⟨rfl, rfl, rfl, by decide +kernel, rfl, by decide +kernel, by decide +kernel⟩
theorem sc_Rules___init__ : FnScope ["self", "prec", "rounding", "emin", "emax", "clamp"] ["self", "prec", "rounding", "emin", "emax", "clamp"] (defScope s_Rules___init__) := ⟨rfl, rfl, rfl, by decide +kernel, rfl, by decide +kernel, by decide +kernel⟩
theorem sc_Rules_etiny : FnScope ["self"] ["self"] (defScope s_Rules_etiny) := ⟨rfl, rfl, rfl, by decide +kernel, rfl, by decide +kernel, by decide +kernel⟩
theorem sc_Rules_etop : FnScope ["self"] ["self"] (defScope s_Rules_etop) := ⟨rfl, rfl, rfl, by decide +kernel, rfl, by decide +kernel, by decide +kernel⟩
theorem sc_finish_zero : FnScope ["rules", "sign", "exponent", "top", "moved"] ["rules", "sign", "exponent"] (defScope s_finish_zero) := ⟨rfl, rfl, rfl, by decide +kernel, rfl, by decide +kernel, by decide +kernel⟩
theorem sc_finish_parts : FnScope ["rules", "sign", "coefficient", "exponent", "first", "least", "words", "number"] ["rules", "sign", "coefficient", "exponent"] (defScope s_finish_parts) := ⟨rfl, rfl, rfl, by decide +kernel, rfl, by decide +kernel, by decide +kernel⟩
theorem sc_finish : FnScope ["rules", "a"] ["rules", "a"] (defScope s_finish) := ⟨rfl, rfl, rfl, by decide +kernel, rfl, by decide +kernel, by decide +kernel⟩
theorem sc_nan_of : FnScope ["rules", "operands", "some", "signaling", "chosen", "quiet", "one"] ["rules", "operands"] (defScope s_nan_of) := ⟨rfl, rfl, rfl, by decide +kernel, rfl, by decide +kernel, by decide +kernel⟩
theorem sc_with_sign_sums : FnScope ["rules", "a", "sign"] ["rules", "a", "sign"] (defScope s_with_sign_sums) := ⟨rfl, rfl, rfl, by decide +kernel, rfl, by decide +kernel, by decide +kernel⟩
theorem sc_plus : FnScope ["rules", "a", "found"] ["rules", "a"] (defScope s_plus) := ⟨rfl, rfl, rfl, by decide +kernel, rfl, by decide +kernel, by decide +kernel⟩
theorem sc_minus : FnScope ["rules", "a", "found"] ["rules", "a"] (defScope s_minus) := ⟨rfl, rfl, rfl, by decide +kernel, rfl, by decide +kernel, by decide +kernel⟩
theorem sc_absolute : FnScope ["rules", "a"] ["rules", "a"] (defScope s_absolute) := ⟨rfl, rfl, rfl, by decide +kernel, rfl, by decide +kernel, by decide +kernel⟩
theorem sc_with_one : FnScope ["rules", "name", "a"] ["rules", "name", "a"] (defScope s_with_one) := ⟨rfl, rfl, rfl, by decide +kernel, rfl, by decide +kernel, by decide +kernel⟩
theorem sc_outcome_of : FnScope ["rules", "name", "operands"] ["rules", "name", "operands"] (defScope s_outcome_of) := ⟨rfl, rfl, rfl, by decide +kernel, rfl, by decide +kernel, by decide +kernel⟩
theorem sc_is_operation : FnScope ["name", "many"] ["name", "many"] (defScope s_is_operation) := ⟨rfl, rfl, rfl, by decide +kernel, rfl, by decide +kernel, by decide +kernel⟩
theorem sc_signal_of : FnScope ["condition"] ["condition"] (defScope s_signal_of) := ⟨rfl, rfl, rfl, by decide +kernel, rfl, by decide +kernel, by decide +kernel⟩
theorem sc_Context___init__ : FnScope ["self", "prec", "rounding", "emin", "emax", "capitals", "clamp", "traps"] ["self", "prec", "rounding", "emin", "emax", "capitals", "clamp", "traps"] (defScope s_Context___init__) := ⟨rfl, rfl, rfl, by decide +kernel, rfl, by decide +kernel, by decide +kernel⟩
theorem sc_Context_told : FnScope ["self", "name", "operands", "result", "conditions", "operand", "condition"] ["self", "name", "operands"] (defScope s_Context_told) := ⟨rfl, rfl, rfl, by decide +kernel, rfl, by decide +kernel, by decide +kernel⟩
theorem sc_check_between : FnScope ["thing", "least", "most", "part"] ["thing", "least", "most", "part"] (defScope s_check_between) := ⟨rfl, rfl, rfl, by decide +kernel, rfl, by decide +kernel, by decide +kernel⟩
theorem sc_names_of : FnScope ["names", "part", "name"] ["names", "part"] (defScope s_names_of) := ⟨rfl, rfl, rfl, by decide +kernel, rfl, by decide +kernel, by decide +kernel⟩
theorem sc__law_well : FnScope ["_law_cell"] ["_law_cell"] (defScope s__law_well) := ⟨rfl, rfl, rfl, by decide +kernel, rfl, by decide +kernel, by decide +kernel⟩
theorem sc__law_draw : FnScope ["_law_well_here", "_law_many", "_law_digit", "_law_number", "_law_mixed"] ["_law_well_here", "_law_many"] (defScope s__law_draw) := ⟨rfl, rfl, rfl, by decide +kernel, rfl, by decide +kernel, by decide +kernel⟩
theorem sc__law_one : FnScope ["_law_well_here", "_law_some"] ["_law_well_here", "_law_some"] (defScope s__law_one) := ⟨rfl, rfl, rfl, by decide +kernel, rfl, by decide +kernel, by decide +kernel⟩
theorem sc__law_parts : FnScope ["_law_a"] ["_law_a"] (defScope s__law_parts) := ⟨rfl, rfl, rfl, by decide +kernel, rfl, by decide +kernel, by decide +kernel⟩
theorem sc__law_ways : FnScope [] [] (defScope s__law_ways) := ⟨rfl, rfl, rfl, by decide +kernel, rfl, by decide +kernel, by decide +kernel⟩
theorem sc__law_rules : FnScope ["_law_well_here", "_law_most", "_law_wide", "_law_way", "_law_low", "_law_top"] ["_law_well_here", "_law_most"] (defScope s__law_rules) := ⟨rfl, rfl, rfl, by decide +kernel, rfl, by decide +kernel, by decide +kernel⟩
theorem sc__law_context : FnScope ["_law_rules_here", "_law_wide", "_law_way", "_law_low", "_law_top", "_law_folds"] ["_law_rules_here"] (defScope s__law_context) := ⟨rfl, rfl, rfl, by decide +kernel, rfl, by decide +kernel, by decide +kernel⟩
theorem sc__law_zero_right : FnScope ["_law_rules_here", "_law_sign", "_law_place", "_law_told", "_law_least", "_law_most", "_law_goal"] ["_law_rules_here", "_law_sign", "_law_place", "_law_told"] (defScope s__law_zero_right) := ⟨rfl, rfl, rfl, by decide +kernel, rfl, by decide +kernel, by decide +kernel⟩
theorem sc_law : FnScope ["_law_script", "_law_cell", "_law_well_here", "_law_rules_here", "_law_context_here", "_law_floor", "_law_begin", "_law_many", "_law_some", "_law_far", "_law_place", "_law_sign", "_law_a", "_law_k"] ["_law_script"] (defScope s_law) := ⟨rfl, rfl, rfl, by decide +kernel, rfl, by decide +kernel, by decide +kernel⟩
structure Tx (K : PySem.W.Frag) (mg : Str → Option Value) : Prop where
  n_isinstance : mg "isinstance" = none
  n_int : mg "int" = none
  n_bool : mg "bool" = none
  g_is_integer : mg "is_integer" = some (.ref (He.ga K "is_integer"))
  n_str : mg "str" = none
  c_INFINITY : ∃ t, mg "INFINITY" = some (.str "F" t)
  c_QUIET : ∃ t, mg "QUIET" = some (.str "n" t)
  c_SIGNALING : ∃ t, mg "SIGNALING" = some (.str "N" t)
  g_NoDecimal : mg "NoDecimal" = some (.ref (He.ga K "NoDecimal"))
  g_is_exponent : mg "is_exponent" = some (.ref (He.ga K "is_exponent"))
  g_is_finite : mg "is_finite" = some (.ref (He.ga K "is_finite"))
  g_Decimal : mg "Decimal" = some (.ref (He.ga K "Decimal"))
  g_NoOperand : mg "NoOperand" = some (.ref (He.ga K "NoOperand"))
  n_abs : mg "abs" = none
  n_min : mg "min" = none
  n_max : mg "max" = none
  g_finish_zero : mg "finish_zero" = some (.ref (He.ga K "finish_zero"))
  g_count_digits : mg "count_digits" = some (.ref (He.ga K "count_digits"))
  g_overflow : mg "overflow" = some (.ref (He.ga K "overflow"))
  g_finish_cut : mg "finish_cut" = some (.ref (He.ga K "finish_cut"))
  g_tens : mg "tens" = some (.ref (He.ga K "tens"))
  g_is_infinite : mg "is_infinite" = some (.ref (He.ga K "is_infinite"))
  g_is_nan : mg "is_nan" = some (.ref (He.ga K "is_nan"))
  g_kept_digits : mg "kept_digits" = some (.ref (He.ga K "kept_digits"))
  g_finish_parts : mg "finish_parts" = some (.ref (He.ga K "finish_parts"))
  n_len : mg "len" = none
  g_is_signaling : mg "is_signaling" = some (.ref (He.ga K "is_signaling"))
  g_is_zero : mg "is_zero" = some (.ref (He.ga K "is_zero"))
  g_finish : mg "finish" = some (.ref (He.ga K "finish"))
  g_nan_of : mg "nan_of" = some (.ref (He.ga K "nan_of"))
  g_with_sign_sums : mg "with_sign_sums" = some (.ref (He.ga K "with_sign_sums"))
  g_minus : mg "minus" = some (.ref (He.ga K "minus"))
  g_plus : mg "plus" = some (.ref (He.ga K "plus"))
  g_absolute : mg "absolute" = some (.ref (He.ga K "absolute"))
  g_to_integral_exact : mg "to_integral_exact" = some (.ref (He.ga K "to_integral_exact"))
  g_to_integral_value : mg "to_integral_value" = some (.ref (He.ga K "to_integral_value"))
  g_normalize : mg "normalize" = some (.ref (He.ga K "normalize"))
  g_number_class : mg "number_class" = some (.ref (He.ga K "number_class"))
  g_is_normal : mg "is_normal" = some (.ref (He.ga K "is_normal"))
  g_is_subnormal : mg "is_subnormal" = some (.ref (He.ga K "is_subnormal"))
  g_next_plus : mg "next_plus" = some (.ref (He.ga K "next_plus"))
  g_next_minus : mg "next_minus" = some (.ref (He.ga K "next_minus"))
  g_logb : mg "logb" = some (.ref (He.ga K "logb"))
  g_logical_invert : mg "logical_invert" = some (.ref (He.ga K "logical_invert"))
  g_sqrt : mg "sqrt" = some (.ref (He.ga K "sqrt"))
  g_exp : mg "exp" = some (.ref (He.ga K "exp"))
  g_ln : mg "ln" = some (.ref (He.ga K "ln"))
  g_log10 : mg "log10" = some (.ref (He.ga K "log10"))
  g_QUESTIONS : mg "QUESTIONS" = some (.ref (He.ga K "QUESTIONS"))
  g_answer_to : mg "answer_to" = some (.ref (He.ga K "answer_to"))
  g_COPIES : mg "COPIES" = some (.ref (He.ga K "COPIES"))
  g_copy_of : mg "copy_of" = some (.ref (He.ga K "copy_of"))
  g_with_sign_copies : mg "with_sign_copies" = some (.ref (He.ga K "with_sign_copies"))
  g_SINGLE : mg "SINGLE" = some (.ref (He.ga K "SINGLE"))
  g_with_one : mg "with_one" = some (.ref (He.ga K "with_one"))
  g_fma : mg "fma" = some (.ref (He.ga K "fma"))
  g_power_modulo : mg "power_modulo" = some (.ref (He.ga K "power_modulo"))
  g_with_two : mg "with_two" = some (.ref (He.ga K "with_two"))
  g_DOUBLE : mg "DOUBLE" = some (.ref (He.ga K "DOUBLE"))
  g_INVALID : mg "INVALID" = some (.ref (He.ga K "INVALID"))
  g_check_between : mg "check_between" = some (.ref (He.ga K "check_between"))
  c_MOST : ∃ t, mg "MOST" = some (.int 999999999999999999 t)
  g_ROUNDINGS : mg "ROUNDINGS" = some (.ref (He.ga K "ROUNDINGS"))
  g_NoContext : mg "NoContext" = some (.ref (He.ga K "NoContext"))
  g_names_of : mg "names_of" = some (.ref (He.ga K "names_of"))
  g_Rules : mg "Rules" = some (.ref (He.ga K "Rules"))
  n_tuple : mg "tuple" = none
  g_is_operation : mg "is_operation" = some (.ref (He.ga K "is_operation"))
  g_NoName : mg "NoName" = some (.ref (He.ga K "NoName"))
  g_outcome_of : mg "outcome_of" = some (.ref (He.ga K "outcome_of"))
  n_sorted : mg "sorted" = none
  g_decimal_of : mg "decimal_of" = some (.ref (He.ga K "decimal_of"))
  g_signal_of : mg "signal_of" = some (.ref (He.ga K "signal_of"))
  n_list : mg "list" = none
  n_all : mg "all" = none
  g_ORDER : mg "ORDER" = some (.ref (He.ga K "ORDER"))
  g__law_draw : mg "_law_draw" = some (.ref (He.ga K "_law_draw"))
  g__law_one : mg "_law_one" = some (.ref (He.ga K "_law_one"))
  g__law_ways : mg "_law_ways" = some (.ref (He.ga K "_law_ways"))
  g_Context : mg "Context" = some (.ref (He.ga K "Context"))
  g__law_parts : mg "_law_parts" = some (.ref (He.ga K "_law_parts"))
  g__law_well : mg "_law_well" = some (.ref (He.ga K "_law_well"))
  g__law_rules : mg "_law_rules" = some (.ref (He.ga K "_law_rules"))
  g__law_context : mg "_law_context" = some (.ref (He.ga K "_law_context"))
  n_range : mg "range" = none
  g__law_zero_right : mg "_law_zero_right" = some (.ref (He.ga K "_law_zero_right"))
  g_law : mg "law" = some (.ref (He.ga K "law"))
  cl_Decimal : Cls K (He.ga K "Decimal")
  no_Decimal_sign : NoAttr K (He.ga K "Decimal") "sign"
  no_Decimal_coefficient : NoAttr K (He.ga K "Decimal") "coefficient"
  no_Decimal_exponent : NoAttr K (He.ga K "Decimal") "exponent"
  cl_Rules : Cls K (He.ga K "Rules")
  no_Rules_prec : NoAttr K (He.ga K "Rules") "prec"
  no_Rules_rounding : NoAttr K (He.ga K "Rules") "rounding"
  no_Rules_emin : NoAttr K (He.ga K "Rules") "emin"
  no_Rules_emax : NoAttr K (He.ga K "Rules") "emax"
  no_Rules_clamp : NoAttr K (He.ga K "Rules") "clamp"
  cl_Context : Cls K (He.ga K "Context")
  no_Context_trapped : NoAttr K (He.ga K "Context") "trapped"
  no_Context_raised : NoAttr K (He.ga K "Context") "raised"
  no_Context_prec : NoAttr K (He.ga K "Context") "prec"
  no_Context_rounding : NoAttr K (He.ga K "Context") "rounding"
  no_Context_emin : NoAttr K (He.ga K "Context") "emin"
  no_Context_emax : NoAttr K (He.ga K "Context") "emax"
  no_Context_capitals : NoAttr K (He.ga K "Context") "capitals"
  no_Context_clamp : NoAttr K (He.ga K "Context") "clamp"
  no_Context_rules : NoAttr K (He.ga K "Context") "rules"
  m_Decimal : Mk K (He.ga K "Decimal") (He.ma K (He.ga K "Decimal") "__init__")
  m_Rules : Mk K (He.ga K "Rules") (He.ma K (He.ga K "Rules") "__init__")
  me_Rules_etiny : Meth K (He.ga K "Rules") "etiny" (He.ma K (He.ga K "Rules") "etiny")
  me_Rules_etop : Meth K (He.ga K "Rules") "etop" (He.ma K (He.ga K "Rules") "etop")
  m_Context : Mk K (He.ga K "Context") (He.ma K (He.ga K "Context") "__init__")
  me_Context_told : Meth K (He.ga K "Context") "told" (He.ma K (He.ga K "Context") "told")
  t_QUESTIONS : ∀ H, SqT K H (He.ga K "QUESTIONS") (([V.str "is_finite", V.str "is_infinite", V.str "is_nan", V.str "is_qnan", V.str "is_snan", V.str "is_signed", V.str "is_zero", V.str "is_canonical"] : List V))
  t_COPIES : ∀ H, SqT K H (He.ga K "COPIES") (([V.str "copy_abs", V.str "copy_negate", V.str "canonical"] : List V))
  t_SINGLE : ∀ H, SqT K H (He.ga K "SINGLE") (([V.str "plus", V.str "absolute", V.str "minus", V.str "to_integral_exact", V.str "to_integral_value", V.str "normalize", V.str "number_class", V.str "is_normal", V.str "is_subnormal", V.str "next_plus"] : List V) ++ ([V.str "next_minus", V.str "logb", V.str "logical_invert", V.str "sqrt", V.str "exp", V.str "ln", V.str "log10"] : List V))
  t_DOUBLE : ∀ H, SqT K H (He.ga K "DOUBLE") (([V.str "add", V.str "subtract", V.str "multiply", V.str "divide", V.str "divide_int", V.str "remainder", V.str "divide_both", V.str "remainder_near", V.str "quantize", V.str "same_quantum"] : List V) ++ ([V.str "compare", V.str "compare_signal", V.str "compare_total", V.str "compare_total_mag", V.str "equal", V.str "less", V.str "at_most", V.str "maximum", V.str "minimum", V.str "max_mag"] : List V) ++ ([V.str "min_mag", V.str "next_toward", V.str "scaleb", V.str "shift", V.str "rotate", V.str "logical_and", V.str "logical_or", V.str "logical_xor", V.str "power"] : List V))
  t_INVALID : ∀ H, SqT K H (He.ga K "INVALID") (([V.str "InvalidOperation", V.str "ConversionSyntax", V.str "DivisionImpossible", V.str "DivisionUndefined"] : List V))
  t_ROUNDINGS : ∀ H, SqT K H (He.ga K "ROUNDINGS") (([V.str "up", V.str "down", V.str "ceiling", V.str "floor", V.str "half_up", V.str "half_down", V.str "half_even", V.str "05up"] : List V))
  t_ORDER : ∀ H, SqT K H (He.ga K "ORDER") (([V.str "InvalidOperation", V.str "DivisionByZero", V.str "Overflow", V.str "Underflow", V.str "Subnormal", V.str "Inexact", V.str "Rounded", V.str "Clamped"] : List V))
  ow_Decimal : OwnC K (He.ga K "Decimal")
  ow_Rules : OwnC K (He.ga K "Rules")
  ow_Context : OwnC K (He.ga K "Context")
  d_tens : ∃ fd, FunD K "tens" "tens" (defArgs s_tens) (defBody s_tens) (defScope s_tens) [] [] (He.fAd K ("tens", none)) fd
  d_is_integer : ∃ fd, FunD K "is_integer" "is_integer" (defArgs s_is_integer) (defBody s_is_integer) (defScope s_is_integer) [] [] (He.fAd K ("is_integer", none)) fd
  d_is_exponent : ∃ fd, FunD K "is_exponent" "is_exponent" (defArgs s_is_exponent) (defBody s_is_exponent) (defScope s_is_exponent) [] [] (He.fAd K ("is_exponent", none)) fd
  d_Decimal___init__ : ∃ fd, FunD K "__init__" "Decimal.__init__" (defArgs s_Decimal___init__) (defBody s_Decimal___init__) (defScope s_Decimal___init__) [] [] (He.fAd K ("Decimal", some "__init__")) fd
  d_is_finite : ∃ fd, FunD K "is_finite" "is_finite" (defArgs s_is_finite) (defBody s_is_finite) (defScope s_is_finite) [] [] (He.fAd K ("is_finite", none)) fd
  d_is_infinite : ∃ fd, FunD K "is_infinite" "is_infinite" (defArgs s_is_infinite) (defBody s_is_infinite) (defScope s_is_infinite) [] [] (He.fAd K ("is_infinite", none)) fd
  d_is_nan : ∃ fd, FunD K "is_nan" "is_nan" (defArgs s_is_nan) (defBody s_is_nan) (defScope s_is_nan) [] [] (He.fAd K ("is_nan", none)) fd
  d_is_signaling : ∃ fd, FunD K "is_signaling" "is_signaling" (defArgs s_is_signaling) (defBody s_is_signaling) (defScope s_is_signaling) [] [] (He.fAd K ("is_signaling", none)) fd
  d_is_zero : ∃ fd, FunD K "is_zero" "is_zero" (defArgs s_is_zero) (defBody s_is_zero) (defScope s_is_zero) [] [] (He.fAd K ("is_zero", none)) fd
  d_decimal_of : ∃ fd, FunD K "decimal_of" "decimal_of" (defArgs s_decimal_of) (defBody s_decimal_of) (defScope s_decimal_of) [] [] (He.fAd K ("decimal_of", none)) fd
  d_Rules___init__ : ∃ fd, FunD K "__init__" "Rules.__init__" (defArgs s_Rules___init__) (defBody s_Rules___init__) (defScope s_Rules___init__) [] [] (He.fAd K ("Rules", some "__init__")) fd
  d_Rules_etiny : ∃ fd, FunD K "etiny" "Rules.etiny" (defArgs s_Rules_etiny) (defBody s_Rules_etiny) (defScope s_Rules_etiny) [] [] (He.fAd K ("Rules", some "etiny")) fd
  d_Rules_etop : ∃ fd, FunD K "etop" "Rules.etop" (defArgs s_Rules_etop) (defBody s_Rules_etop) (defScope s_Rules_etop) [] [] (He.fAd K ("Rules", some "etop")) fd
  d_finish_zero : ∃ fd, FunD K "finish_zero" "finish_zero" (defArgs s_finish_zero) (defBody s_finish_zero) (defScope s_finish_zero) [] [] (He.fAd K ("finish_zero", none)) fd
  d_finish_parts : ∃ fd, FunD K "finish_parts" "finish_parts" (defArgs s_finish_parts) (defBody s_finish_parts) (defScope s_finish_parts) [] [] (He.fAd K ("finish_parts", none)) fd
  d_finish : ∃ fd, FunD K "finish" "finish" (defArgs s_finish) (defBody s_finish) (defScope s_finish) [] [] (He.fAd K ("finish", none)) fd
  d_nan_of : ∃ fd, FunD K "nan_of" "nan_of" (defArgs s_nan_of) (defBody s_nan_of) (defScope s_nan_of) [] [] (He.fAd K ("nan_of", none)) fd
  d_with_sign_sums : ∃ fd, FunD K "with_sign" "with_sign" (defArgs s_with_sign_sums) (defBody s_with_sign_sums) (defScope s_with_sign_sums) [] [] (He.fAd K ("with_sign_sums", none)) fd
  d_plus : ∃ fd, FunD K "plus" "plus" (defArgs s_plus) (defBody s_plus) (defScope s_plus) [] [] (He.fAd K ("plus", none)) fd
  d_minus : ∃ fd, FunD K "minus" "minus" (defArgs s_minus) (defBody s_minus) (defScope s_minus) [] [] (He.fAd K ("minus", none)) fd
  d_absolute : ∃ fd, FunD K "absolute" "absolute" (defArgs s_absolute) (defBody s_absolute) (defScope s_absolute) [] [] (He.fAd K ("absolute", none)) fd
  d_with_one : ∃ fd, FunD K "with_one" "with_one" (defArgs s_with_one) (defBody s_with_one) (defScope s_with_one) [] [] (He.fAd K ("with_one", none)) fd
  d_outcome_of : ∃ fd, FunD K "outcome_of" "outcome_of" (defArgs s_outcome_of) (defBody s_outcome_of) (defScope s_outcome_of) [] [] (He.fAd K ("outcome_of", none)) fd
  d_is_operation : ∃ fd, FunD K "is_operation" "is_operation" (defArgs s_is_operation) (defBody s_is_operation) (defScope s_is_operation) [] [] (He.fAd K ("is_operation", none)) fd
  d_signal_of : ∃ fd, FunD K "signal_of" "signal_of" (defArgs s_signal_of) (defBody s_signal_of) (defScope s_signal_of) [] [] (He.fAd K ("signal_of", none)) fd
  d_Context___init__ : ∃ fd, FunD K "__init__" "Context.__init__" (defArgs s_Context___init__) (defBody s_Context___init__) (defScope s_Context___init__) [] [("prec", V.int (28)), ("rounding", V.str "half_even"), ("emin", V.int (-999999)), ("emax", V.int (999999)), ("capitals", V.int (1)), ("clamp", V.int (0))] (He.fAd K ("Context", some "__init__")) fd
  d_Context_told : ∃ fd, FunD K "told" "Context.told" (defArgs s_Context_told) (defBody s_Context_told) (defScope s_Context_told) [] [] (He.fAd K ("Context", some "told")) fd
  d_check_between : ∃ fd, FunD K "check_between" "check_between" (defArgs s_check_between) (defBody s_check_between) (defScope s_check_between) [] [] (He.fAd K ("check_between", none)) fd
  d_names_of : ∃ fd, FunD K "names_of" "names_of" (defArgs s_names_of) (defBody s_names_of) (defScope s_names_of) [] [] (He.fAd K ("names_of", none)) fd
  d__law_well : ∃ fd, FunD K "_law_well" "_law_well" (defArgs s__law_well) (defBody s__law_well) (defScope s__law_well) [] [] (He.fAd K ("_law_well", none)) fd
  d__law_draw : ∃ fd, FunD K "_law_draw" "_law_draw" (defArgs s__law_draw) (defBody s__law_draw) (defScope s__law_draw) [] [] (He.fAd K ("_law_draw", none)) fd
  d__law_one : ∃ fd, FunD K "_law_one" "_law_one" (defArgs s__law_one) (defBody s__law_one) (defScope s__law_one) [] [] (He.fAd K ("_law_one", none)) fd
  d__law_parts : ∃ fd, FunD K "_law_parts" "_law_parts" (defArgs s__law_parts) (defBody s__law_parts) (defScope s__law_parts) [] [] (He.fAd K ("_law_parts", none)) fd
  d__law_ways : ∃ fd, FunD K "_law_ways" "_law_ways" (defArgs s__law_ways) (defBody s__law_ways) (defScope s__law_ways) [] [] (He.fAd K ("_law_ways", none)) fd
  d__law_rules : ∃ fd, FunD K "_law_rules" "_law_rules" (defArgs s__law_rules) (defBody s__law_rules) (defScope s__law_rules) [] [] (He.fAd K ("_law_rules", none)) fd
  d__law_context : ∃ fd, FunD K "_law_context" "_law_context" (defArgs s__law_context) (defBody s__law_context) (defScope s__law_context) [] [] (He.fAd K ("_law_context", none)) fd
  d__law_zero_right : ∃ fd, FunD K "_law_zero_right" "_law_zero_right" (defArgs s__law_zero_right) (defBody s__law_zero_right) (defScope s__law_zero_right) [] [] (He.fAd K ("_law_zero_right", none)) fd
  d_law : ∃ fd, FunD K "law" "law" (defArgs s_law) (defBody s_law) (defScope s_law) [] [] (He.fAd K ("law", none)) fd
set_option hygiene false in
local macro_rules | `(tactic| walk_at "rd") => `(tactic| simp only [tSeq, tNext, tDrop, tRet, tRetN, tIfS, tAsg, tPar, tAug, gName, gNil, gCons, gTup, gSub, tVar, tC, tOp, tUn, tCB, tCons, tNil, nTup, nLst, nMake, tTest, tB, tAnd, tOr, tNot, tAndV, tOrV, tNotV, tIf, tCall, tMeth, tFld, sFld, tChain, tNever, fl_n, fl_b, fl_i, fl_s, fv_n, fv_b, fv_i, fv_s, ii_n, ii_b, ii_i, ii_s, ib_n, ib_b, ib_i, ib_s, is_n, is_b, is_i, is_s, im_n, im_b, im_i, im_s, ti_i, ti_t, ti_f, List.all_cons, List.all_nil, Bool.and_self, Bool.and_true, sc_ii, sc_ss, sc_is, sc_si, sc_bb, sp_is_integer, nIn, nNi, nInT, nNiT, rIsF, rIsTup, rAbs, rMaxI, rMinI, rInt1, rLenT, rLenL, rInT, rNiT, rIxTu, rIxLi, rI, rI0, rU, rEq, rNe, tMakeK, List.drop_zero, List.drop_succ_cons, List.take_succ_cons, List.take_zero, List.drop_nil, List.take_nil, nForL, nForR, nLcR, rSlN, rCatN, rSetL, tSl, tPart, tNoPart, CMul, CPow, nDcT, dcStep, dcBody, rSortD, rTupL, rListL, nLcL, nLcT, lcStep, lcBody, wipe, List.foldl_cons, List.foldl_nil, tYes, ipI, L2.start, cxOf, Cx.nox, Cx.wish, List.map_cons, List.map_nil, List.append_nil, List.cons_append, List.nil_append, List.length_cons, List.length_nil, List.replicate_succ, List.replicate_zero, List.getElem?_cons_zero, List.getElem?_cons_succ, List.set_cons_zero, List.set_cons_succ, Nat.add_one_sub_one, Nat.sub_self, Nat.reduceAdd, Nat.reduceSub, Nat.zero_add, Nat.sub_zero,
  Option.some.injEq, exists_eq_left', exists_eq_left, exists_and_left, V.int.injEq, V.bl.injEq, V.str.injEq, V.ref.injEq, List.cons.injEq, and_true, true_and, Bool.false_eq_true, if_true, if_false, ite_true, ite_false, Bool.not_true, Bool.not_false, reduceIte, decide_true, decide_false])
set_option hygiene false in
local macro_rules | `(tactic| walk_at "ff") => `(tactic| first | simp only [hp, hq, T.cl_Decimal, T.no_Decimal_sign, T.no_Decimal_coefficient, T.no_Decimal_exponent, lk_sign, lk_coef, lk_exp, T.cl_Context, T.no_Context_rules, lk_rules, lk_told, T.cl_Rules, T.no_Rules_prec, T.no_Rules_rounding, T.no_Rules_emin, T.no_Rules_emax, T.no_Rules_clamp, lk_prec, lk_rnd, lk_emin, lk_emax, lk_clamp, lk_etiny, lk_etop, at1_0, at2_0, at2_1, at3_0, at3_1, at3_2, at5_0, at5_1, at5_2, at5_3, at5_4, Option.some.injEq, HO.ins.injEq, HO.tup.injEq, HO.lst.injEq, fl_n, fl_b, fl_i, fl_s, fv_n, fv_b, fv_i, fv_s, ii_n, ii_b, ii_i, ii_s, ib_n, ib_b, ib_i, ib_s, is_n, is_b, is_i, is_s, im_n, im_b, im_i, im_s, ti_i, ti_t, ti_f, List.all_cons, List.all_nil, Bool.and_self, Bool.and_true, sc_ii, sc_ss, sc_is, sc_si, sc_bb, V.int.injEq, V.bl.injEq, V.str.injEq, V.ref.injEq, List.cons.injEq, Bool.true_and, Bool.false_eq_true, Bool.not_true, Bool.not_false, reduceIte, and_assoc, exists_eq_left', exists_eq_left, exists_and_left, and_true, true_and, decide_true, decide_false] | simp only [hp, T.cl_Decimal, T.no_Decimal_sign, T.no_Decimal_coefficient, T.no_Decimal_exponent, lk_sign, lk_coef, lk_exp, T.cl_Context, T.no_Context_rules, lk_rules, lk_told, T.cl_Rules, T.no_Rules_prec, T.no_Rules_rounding, T.no_Rules_emin, T.no_Rules_emax, T.no_Rules_clamp, lk_prec, lk_rnd, lk_emin, lk_emax, lk_clamp, lk_etiny, lk_etop, at1_0, at2_0, at2_1, at3_0, at3_1, at3_2, at5_0, at5_1, at5_2, at5_3, at5_4, Option.some.injEq, HO.ins.injEq, HO.tup.injEq, HO.lst.injEq, fl_n, fl_b, fl_i, fl_s, fv_n, fv_b, fv_i, fv_s, ii_n, ii_b, ii_i, ii_s, ib_n, ib_b, ib_i, ib_s, is_n, is_b, is_i, is_s, im_n, im_b, im_i, im_s, ti_i, ti_t, ti_f, List.all_cons, List.all_nil, Bool.and_self, Bool.and_true, sc_ii, sc_ss, sc_is, sc_si, sc_bb, V.int.injEq, V.bl.injEq, V.str.injEq, V.ref.injEq, List.cons.injEq, Bool.true_and, Bool.false_eq_true, Bool.not_true, Bool.not_false, reduceIte, and_assoc, exists_eq_left', exists_eq_left, exists_and_left, and_true, true_and, decide_true, decide_false] | simp only [hq, T.cl_Decimal, T.no_Decimal_sign, T.no_Decimal_coefficient, T.no_Decimal_exponent, lk_sign, lk_coef, lk_exp, T.cl_Context, T.no_Context_rules, lk_rules, lk_told, T.cl_Rules, T.no_Rules_prec, T.no_Rules_rounding, T.no_Rules_emin, T.no_Rules_emax, T.no_Rules_clamp, lk_prec, lk_rnd, lk_emin, lk_emax, lk_clamp, lk_etiny, lk_etop, at1_0, at2_0, at2_1, at3_0, at3_1, at3_2, at5_0, at5_1, at5_2, at5_3, at5_4, Option.some.injEq, HO.ins.injEq, HO.tup.injEq, HO.lst.injEq, fl_n, fl_b, fl_i, fl_s, fv_n, fv_b, fv_i, fv_s, ii_n, ii_b, ii_i, ii_s, ib_n, ib_b, ib_i, ib_s, is_n, is_b, is_i, is_s, im_n, im_b, im_i, im_s, ti_i, ti_t, ti_f, List.all_cons, List.all_nil, Bool.and_self, Bool.and_true, sc_ii, sc_ss, sc_is, sc_si, sc_bb, V.int.injEq, V.bl.injEq, V.str.injEq, V.ref.injEq, List.cons.injEq, Bool.true_and, Bool.false_eq_true, Bool.not_true, Bool.not_false, reduceIte, and_assoc, exists_eq_left', exists_eq_left, exists_and_left, and_true, true_and, decide_true, decide_false] | simp only [T.cl_Decimal, T.no_Decimal_sign, T.no_Decimal_coefficient, T.no_Decimal_exponent, lk_sign, lk_coef, lk_exp, T.cl_Context, T.no_Context_rules, lk_rules, lk_told, T.cl_Rules, T.no_Rules_prec, T.no_Rules_rounding, T.no_Rules_emin, T.no_Rules_emax, T.no_Rules_clamp, lk_prec, lk_rnd, lk_emin, lk_emax, lk_clamp, lk_etiny, lk_etop, at1_0, at2_0, at2_1, at3_0, at3_1, at3_2, at5_0, at5_1, at5_2, at5_3, at5_4, Option.some.injEq, HO.ins.injEq, HO.tup.injEq, HO.lst.injEq, fl_n, fl_b, fl_i, fl_s, fv_n, fv_b, fv_i, fv_s, ii_n, ii_b, ii_i, ii_s, ib_n, ib_b, ib_i, ib_s, is_n, is_b, is_i, is_s, im_n, im_b, im_i, im_s, ti_i, ti_t, ti_f, List.all_cons, List.all_nil, Bool.and_self, Bool.and_true, sc_ii, sc_ss, sc_is, sc_si, sc_bb, V.int.injEq, V.bl.injEq, V.str.injEq, V.ref.injEq, List.cons.injEq, Bool.true_and, Bool.false_eq_true, Bool.not_true, Bool.not_false, reduceIte, and_assoc, exists_eq_left', exists_eq_left, exists_and_left, and_true, true_and, decide_true, decide_false])
set_option hygiene false in
local macro_rules | `(tactic| walk_at "wl") => `(tactic| simp only [hw, upd_same, at3_0, at3_1, at3_2, ix3_0, ix3_1, ix3_2, List.length_cons, List.length_nil, Nat.zero_add, Nat.reduceAdd, List.set_cons_zero, List.set_cons_succ, HO.lst.injEq, Option.some.injEq, im_i, ti_i, V.int.injEq, and_assoc, exists_eq_left', exists_eq_left, exists_and_left, and_true, true_and])

section
variable {P : Program} {w : World} {K : PySem.W.Frag} {mg : Str → Option Value} {base : Heap}
theorem ok_tens (T : Tx K mg) : Okd P w K mg base 1 ("tens", none) ["many"] sp_tens := by
  obtain ⟨fd, F⟩ := T.d_tens
  refine ⟨fd, F.ok sc_tens (fun vs H Q E h => ?_) (fun cdv A outer s H vs Q E hr h => ⟨_, PSs.nox ((pss_cons (ps_asg (n_tup (pa_cons pe_int (pa_cons pe_int pa_nil))) (pg_tup (by rfl) (pgs_cons (pg_name (i := 1) sc_tens.nd rfl (Or.inl rfl)) (pgs_cons (pg_name (i := 2) sc_tens.nd rfl (Or.inl rfl)) pgs_nil))))
 (pss_cons (ps_while PassesOwn.never (pt_cmpR op_gt (pv 0) pe_int (nomark _))
 (pss_cons (ps_if (pt_cmpR op_eq (pe_op op_mod (pv 0) pe_int) pe_int (nomark _))
 (pss_one (ps_set (i := 1) sc_tens.nd rfl (Or.inl rfl) (pe_op op_mulW (pv 1) (pv 2))))
 pss_nil)
 (pss_one (ps_par (i := 2) (j := 0) (by rfl) sc_tens.nd rfl rfl (by decide) rfl rfl (pa_cons (pe_op op_mulW (pv 2) (pv 2)) (pa_cons (pe_op op_fdivW (pv 0) pe_int) pa_nil)) (by rfl)))))
 (pss_one (ps_ret (pv 1)))))), ?_⟩), F.bindsN (fun _ _ _ _ _ _ us hl => match us, hl with | [_], _ => rfl), F.kp⟩
  · obtain ⟨n, rfl, _⟩ := h
    rfl
  · obtain ⟨n, rfl, hn, k⟩ := h
    refine ⟨(by show 2 ≤ 100000; decide), fun p H1 e1 n1 p1 => ?_⟩
    refine ⟨p, _, rfl, SqT.of p1, rfl, _, _, rfl, _, _, rfl, rfl, ?_⟩
    refine while_n (fun m σ H' => H' = H1 ∧ ∃ (f b : Nat), σ = [some (.int (m : Int)), some (.int ((10 : Int) ^ f)), some (.int ((10 : Int) ^ b))] ∧ f + b * m = n ∧ 1 ≤ b ∧ b ≤ 2 * n + 1 ∧ (0 < m → b ≤ n)) ⟨n, rfl, 0, 1, rfl, by omega, by omega, by omega, by omega⟩ ?_
    rintro m σ H' ⟨rfl, f, b, rfl, e, hb, hb2, hm⟩
    refine ⟨_, rfl, _, _, rfl, rfl, _, rfl, iteD (fun hpos => ?_) (fun hz => ?_)⟩
    · have hmp : 0 < m := by omega
      have hbn := hm hmp
      have hbm : b * 1 ≤ b * m := Nat.mul_le_mul_left b hmp
      have hfn : f + b ≤ n := by omega
      refine ⟨fun σ' H'' => H'' = H' ∧ ∃ (f b2 : Nat), σ' = [some (.int ((m / 2 : Nat) : Int)), some (.int ((10 : Int) ^ f)), some (.int ((10 : Int) ^ b2))] ∧ f + b2 * (m / 2) = n ∧ 1 ≤ b2 ∧ b2 ≤ 2 * n + 1 ∧ (0 < m / 2 → b2 ≤ n), ?_, ?_⟩
      · rintro σ' H'' ⟨rfl, f', b', rfl, e', h1, h2, h3⟩
        exact ⟨m / 2, by omega, rfl, f', b', rfl, e', h1, h2, h3⟩
      · have two : (b + b) * (m / 2) + b * (m % 2) = b * m := by
          have := Nat.div_add_mod m 2
          calc (b + b) * (m / 2) + b * (m % 2) = b * (2 * (m / 2) + m % 2) := by rw [Nat.mul_add, ← Nat.mul_assoc, Nat.mul_two]
            _ = b * m := by rw [this]
        have last : 0 < m / 2 → b + b ≤ n := fun h => by
          have : (b + b) * 1 ≤ (b + b) * (m / 2) := Nat.mul_le_mul_left _ h
          omega
        have hdiv : ((m : Int) / 2) = ((m / 2 : Nat) : Int) := by omega
        have hpow : (10 : Int) ^ b * 10 ^ b = 10 ^ (b + b) := (Int.pow_add ..).symm
        refine ⟨_, rfl, _, _, rfl, rfl, (by show (0 : Int) < 2; decide), rfl, _, rfl, iteD (fun hodd => ?_) (fun hev => ?_)⟩
        · have hodd2 : m % 2 = 1 := by
            have := V.int.inj hodd
            omega
          refine ⟨_, rfl, _, rfl, _, _, rfl, rfl, mulW10 (by omega), ?_⟩
          refine ⟨_, rfl, _, rfl, _, _, rfl, rfl, mulW10 (by omega), _, rfl, _, _, rfl, rfl, ⟨by decide, by decide⟩, _, _, rfl, rfl, f + b, b + b, ?_, ?_, by omega, by omega, last⟩
          · show [some (V.int ((m : Int) / 2)), some (V.int ((10 : Int) ^ f * 10 ^ b)), some (V.int ((10 : Int) ^ b * 10 ^ b))] = _
            rw [hdiv, hpow, ← Int.pow_add]
          · rw [hodd2] at two
            omega
        · have hev2 : m % 2 = 0 := by
            have : ¬ ((m : Int) % 2 = 1) := fun q => hev (congrArg V.int q)
            omega
          refine ⟨_, rfl, _, rfl, _, _, rfl, rfl, mulW10 (by omega), _, rfl, _, _, rfl, rfl, ⟨by decide, by decide⟩, _, _, rfl, rfl, f, b + b, ?_, ?_, by omega, by omega, last⟩
          · show [some (V.int ((m : Int) / 2)), some (V.int ((10 : Int) ^ f)), some (V.int ((10 : Int) ^ b * 10 ^ b))] = _
            rw [hdiv, hpow]
          · rw [hev2] at two
            omega
    · have hm0 : m = 0 := by omega
      subst hm0
      refine ⟨_, rfl, ?_⟩
      have ef : f = n := by omega
      rw [← ef] at k
      exact k _ e1
end

section
variable {P : Program} {w : World} {K : PySem.W.Frag} {mg : Str → Option Value} {base : Heap}
theorem fld_sign (T : Tx K mg) {H : Hp} {Q : VK} {v : V} {s c : Int} {e : V} (h : DecAt K H v s c e) (q : Q (.int s) H) :
    ∃ a C dx fs v', v = .ref a ∧ H a = some (.ins C dx fs) ∧ Cls K C ∧ NoAttr K C "sign" ∧ fs.lookup ("sign" : Str) = some v' ∧ Q v' H := by
  obtain ⟨p, dx, h1, h2⟩ := h
  exact ⟨p, _, dx, _, _, h1, h2, T.cl_Decimal, T.no_Decimal_sign, rfl, q⟩
theorem fld_coef (T : Tx K mg) {H : Hp} {Q : VK} {v : V} {s c : Int} {e : V} (h : DecAt K H v s c e) (q : Q (.int c) H) :
    ∃ a C dx fs v', v = .ref a ∧ H a = some (.ins C dx fs) ∧ Cls K C ∧ NoAttr K C "coefficient" ∧ fs.lookup ("coefficient" : Str) = some v' ∧ Q v' H := by
  obtain ⟨p, dx, h1, h2⟩ := h
  exact ⟨p, _, dx, _, _, h1, h2, T.cl_Decimal, T.no_Decimal_coefficient, rfl, q⟩
theorem fld_exp (T : Tx K mg) {H : Hp} {Q : VK} {v : V} {s c : Int} {e : V} (h : DecAt K H v s c e) (q : Q e H) :
    ∃ a C dx fs v', v = .ref a ∧ H a = some (.ins C dx fs) ∧ Cls K C ∧ NoAttr K C "exponent" ∧ fs.lookup ("exponent" : Str) = some v' ∧ Q v' H := by
  obtain ⟨p, dx, h1, h2⟩ := h
  exact ⟨p, _, dx, _, _, h1, h2, T.cl_Decimal, T.no_Decimal_exponent, rfl, q⟩
theorem ok_is_integer (T : Tx K mg) : Okd P w K mg base 1 ("is_integer", none) ["thing"] sp_is_integer := by
  obtain ⟨fd, F⟩ := T.d_is_integer
  refine ⟨fd, F.ok sc_is_integer (fun vs H Q E h => ?_) (fun cdv A outer s H vs Q E hr h => ⟨_, PSs.nox ((pss_one (ps_ret (pe_and (pe_callB isi_int (by rfl) T.n_isinstance (by decide +kernel) (pa_cons (pv 0) (pa_cons (pe_bltn (v := .ty "int") (by rfl) T.n_int (by decide +kernel) rfl) pa_nil))) (pe_one (pe_not (pe_callB isi_bool (by rfl) T.n_isinstance (by decide +kernel) (pa_cons (pv 0) (pa_cons (pe_bltn (v := .ty "bool") (by rfl) T.n_bool (by decide +kernel) rfl) pa_nil))))))))), ?_⟩), F.bindsN (fun _ _ _ _ _ _ us hl => match us, hl with | [_], _ => rfl), F.kp⟩
  · obtain ⟨x, rfl, _⟩ := h
    rfl
  · obtain ⟨x, rfl, hf, k⟩ := h
    walk_at "rd"
    cases x <;> first | exact ⟨rfl, k⟩ | exact ⟨rfl, rfl, k⟩ | cases hf
theorem ok_is_exponent (T : Tx K mg) : Okd P w K mg base 2 ("is_exponent", none) ["thing"] sp_is_exponent := by
  obtain ⟨fd_is_integer, G_is_integer, b_is_integer, k_is_integer⟩ := ok_is_integer (P := P) (w := w) (base := base) T
  obtain ⟨fd, F⟩ := T.d_is_exponent
  refine ⟨fd, F.ok sc_is_exponent (fun vs H Q E h => ?_) (fun cdv A outer s H vs Q E hr h => ⟨_, PSs.nox ((pss_one (ps_ret (pe_or (pe_call G_is_integer (hr.mono (by decide)) (by rfl) T.g_is_integer k_is_integer b_is_integer .nil pass0 (pa_cons (pv 0) pa_nil)) (pe_one (pe_and (pe_callB isi_str (by rfl) T.n_isinstance (by decide +kernel) (pa_cons (pv 0) (pa_cons (pe_bltn (v := .ty "str") (by rfl) T.n_str (by decide +kernel) rfl) pa_nil))) (pe_one (pe_cmpR in_t (pv 0) (n_tup (pa_cons (pe_gS (by rfl) T.c_INFINITY) (pa_cons (pe_gS (by rfl) T.c_QUIET) (pa_cons (pe_gS (by rfl) T.c_SIGNALING) pa_nil)))) rfl)))))))), ?_⟩), F.bindsN (fun _ _ _ _ _ _ us hl => match us, hl with | [_], _ => rfl), F.kp⟩
  · obtain ⟨x, rfl, _⟩ := h
    rfl
  · obtain ⟨x, rfl, hf, k⟩ := h
    walk_at "rd"
    refine ⟨hf, ?_⟩
    cases x with
    | non => exact ⟨rfl, k _ Same.rfl'⟩
    | bl b => exact ⟨rfl, k _ Same.rfl'⟩
    | int i => exact k _ Same.rfl'
    | str z =>
      refine ⟨rfl, by decide, fun p H1 e1 n1 p1 => ⟨p, rfl, _, p1, rfl, rfl, ?_⟩⟩
      have e : inV (.str z) [.str "F", .str "n", .str "N"] = expOk (.str z) := by
        show (("F" : Str) == z || (("n" : Str) == z || (("N" : Str) == z || false))) = (decide (z = "F") || decide (z = "n") || decide (z = "N"))
        rw [Bool.or_false, Bool.or_assoc, str_beq, str_beq, str_beq]
      rw [e]
      exact k _ e1
    | _ => cases hf
theorem ok_Decimal___init__ (T : Tx K mg) : Okd P w K mg base 3 ("Decimal", some "__init__") ["self", "sign", "coefficient", "exponent"] (sp_Decimal___init__ K) := by
  obtain ⟨fd_is_integer, G_is_integer, b_is_integer, k_is_integer⟩ := ok_is_integer (P := P) (w := w) (base := base) T
  obtain ⟨fd_is_exponent, G_is_exponent, b_is_exponent, k_is_exponent⟩ := ok_is_exponent (P := P) (w := w) (base := base) T
  obtain ⟨fd, F⟩ := T.d_Decimal___init__
  refine ⟨fd, F.ok sc_Decimal___init__ (fun vs H Q E h => ?_) (fun cdv A outer s H vs Q E hr h => ⟨_, PSs.nox ((pss_cons (ps_if (PW.pt (pw_or (pt_not (pt_val (pe_call G_is_integer (hr.mono (by decide)) (by rfl) T.g_is_integer k_is_integer b_is_integer .nil pass0 (pa_cons (pv 1) pa_nil)))) (pw_or1 (pt_cmpR ni_t (pv 1) (n_tup (pa_cons pe_int (pa_cons pe_int pa_nil))) rfl))))
 (pss_one ps_never)
 pss_nil)
 (pss_cons (ps_if (PW.pt (pw_or (pt_not (pt_val (pe_call G_is_integer (hr.mono (by decide)) (by rfl) T.g_is_integer k_is_integer b_is_integer .nil pass0 (pa_cons (pv 2) pa_nil)))) (pw_or1 (pt_cmpR op_lt (pv 2) pe_int (nomark _)))))
 (pss_one ps_never)
 pss_nil)
 (pss_cons (ps_if (pt_not (pt_val (pe_call G_is_exponent (hr.mono (by decide)) (by rfl) T.g_is_exponent k_is_exponent b_is_exponent .nil pass0 (pa_cons (pv 3) pa_nil))))
 (pss_one ps_never)
 pss_nil)
 (pss_cons (ps_if (PW.pt (pw_and (pt_cmpR op_eq (pv 3) (pe_gS (by rfl) T.c_INFINITY) (nomark _)) (pw_and1 (pt_cmpR op_ne (pv 2) pe_int (nomark _)))))
 (pss_one ps_never)
 pss_nil)
 (pss_cons (ps_fld (pv 0) (pv 1) rfl)
 (pss_cons (ps_fld (pv 0) (pv 2) rfl)
 (pss_one (ps_fld (pv 0) (pv 3) rfl))))))))), ?_⟩), F.bindsN (fun _ _ _ _ _ _ us hl => match us, hl with | [_, _, _, _], _ => rfl), F.kp⟩
  · obtain ⟨H0, p, dx, args, fs, rfl, _, _, _, ⟨s, c, e, rfl, _⟩, _⟩ := h
    rfl
  · obtain ⟨H0, p, dx, args, fs, rfl, s0, p0, hp, ⟨sg, c, e, rfl, g, rfl⟩, k⟩ := h
    have sce := ScE.of g.ex
    have hin : inV (.int sg) [.int 0, .int 1] = true := by
      rcases g.sg with h | h <;> (rw [h]; rfl)
    walk_at "rd"
    refine ⟨by decide, fun q H1 e1 n1 q1 => ⟨q, rfl, _, q1, rfl, ?_⟩⟩
    rw [hin]
    refine iteF ?_
    refine iteD (fun h => absurd g.co (by omega)) (fun _ => ?_)
    refine ⟨e, rfl, sce.flat, fun H2 e2 => ⟨true, by rw [g.ex], iteF ⟨sce.scal _, ?_⟩⟩⟩
    have hp2 : H2 p = some (.ins (He.ga K "Decimal") dx []) := e2 _ _ (e1 _ _ hp)
    have fin : Q .non (upd (upd (upd H2 p (.ins (He.ga K "Decimal") dx (putF "sign" (.int sg) []))) p (.ins (He.ga K "Decimal") dx (putF "coefficient" (.int c) (putF "sign" (.int sg) [])))) p (.ins (He.ga K "Decimal") dx (putF "exponent" e (putF "coefficient" (.int c) (putF "sign" (.int sg) []))))) := by
      refine k _ (fun b o hb => ?_) upd_same
      have nb : b ≠ p := fun q => by
        rw [q, p0] at hb
        cases hb
      rw [upd_ne nb, upd_ne nb, upd_ne nb]
      exact e2 _ _ (e1 _ _ (s0 _ _ hb))
    refine iteD (fun h => ?_) (fun _ => ?_)
    · rw [g.inf h]
      rw [g.inf h] at fin
      refine iteND (fun h => absurd rfl h) fun _ => ?_
      exact ⟨_, dx, _, hp2, T.cl_Decimal, T.no_Decimal_sign, by decide, _, dx, _, upd_same, T.cl_Decimal, T.no_Decimal_coefficient, (show 1 < 1000 by decide), _, dx, _, upd_same, T.cl_Decimal, T.no_Decimal_exponent, (show 2 < 1000 by decide), fin⟩
    · exact ⟨_, dx, _, hp2, T.cl_Decimal, T.no_Decimal_sign, by decide, _, dx, _, upd_same, T.cl_Decimal, T.no_Decimal_coefficient, (show 1 < 1000 by decide), _, dx, _, upd_same, T.cl_Decimal, T.no_Decimal_exponent, (show 2 < 1000 by decide), fin⟩
end

section
variable {P : Program} {w : World} {K : PySem.W.Frag} {mg : Str → Option Value} {base : Heap}
theorem ok_is_finite (T : Tx K mg) : Okd P w K mg base 2 ("is_finite", none) ["a"] (sp_is_finite K) := by
  obtain ⟨fd_is_integer, G_is_integer, b_is_integer, k_is_integer⟩ := ok_is_integer (P := P) (w := w) (base := base) T
  obtain ⟨fd, F⟩ := T.d_is_finite
  refine ⟨fd, F.ok sc_is_finite (fun vs H Q E h => ?_) (fun cdv A outer s H vs Q E hr h => ⟨_, PSs.nox ((pss_one (ps_ret (pe_call G_is_integer (hr.mono (by decide)) (by rfl) T.g_is_integer k_is_integer b_is_integer .nil pass0 (pa_cons (pe_fld (pv 0) rfl) pa_nil))))), ?_⟩), F.bindsN (fun _ _ _ _ _ _ us hl => match us, hl with | [_], _ => rfl), F.kp⟩
  · obtain ⟨v, s, c, e, rfl, _⟩ := h
    rfl
  · obtain ⟨v, s, c, e, rfl, ⟨⟨p, dx, rfl, hp⟩, g⟩, k⟩ := h
    walk_at "rd"
    walk_at "ff"
    exact ⟨(ScE.of g.ex).flat, k⟩
theorem ok_is_infinite (T : Tx K mg) : Okd P w K mg base 1 ("is_infinite", none) ["a"] (sp_is_infinite K) := by
  obtain ⟨fd, F⟩ := T.d_is_infinite
  refine ⟨fd, F.ok sc_is_infinite (fun vs H Q E h => ?_) (fun cdv A outer s H vs Q E hr h => ⟨_, PSs.nox ((pss_one (ps_ret (pe_cmpR op_eq (pe_fld (pv 0) rfl) (pe_gS (by rfl) T.c_INFINITY) (nomark _))))), ?_⟩), F.bindsN (fun _ _ _ _ _ _ us hl => match us, hl with | [_], _ => rfl), F.kp⟩
  · obtain ⟨v, s, c, e, rfl, _⟩ := h
    rfl
  · obtain ⟨v, s, c, e, rfl, ⟨⟨p, dx, rfl, hp⟩, g⟩, k⟩ := h
    walk_at "rd"
    walk_at "ff"
    exact ⟨(ScE.of g.ex).scal _, k⟩
theorem ok_is_nan (T : Tx K mg) : Okd P w K mg base 1 ("is_nan", none) ["a"] (sp_is_nan K) := by
  obtain ⟨fd, F⟩ := T.d_is_nan
  refine ⟨fd, F.ok sc_is_nan (fun vs H Q E h => ?_) (fun cdv A outer s H vs Q E hr h => ⟨_, PSs.nox ((pss_one (ps_ret (pe_or (pe_cmpR op_eq (pe_fld (pv 0) rfl) (pe_gS (by rfl) T.c_QUIET) (nomark _)) (pe_one (pe_cmpR op_eq (pe_fld (pv 0) rfl) (pe_gS (by rfl) T.c_SIGNALING) (nomark _))))))), ?_⟩), F.bindsN (fun _ _ _ _ _ _ us hl => match us, hl with | [_], _ => rfl), F.kp⟩
  · obtain ⟨v, s, c, e, rfl, _⟩ := h
    rfl
  · obtain ⟨v, s, c, e, rfl, ⟨⟨p, dx, rfl, hp⟩, g⟩, k⟩ := h
    walk_at "rd"
    walk_at "ff"
    have k' : Q (.bl (decide (e = .str "n") || decide (e = .str "N"))) H := k
    refine ⟨(ScE.of g.ex).scal _, iteD (fun h => ?_) (fun h => ⟨(ScE.of g.ex).scal _, ?_⟩)⟩
    · rw [decide_eq_true h] at k'
      exact k'
    · rw [decide_eq_false h] at k'
      exact k'
theorem ok_is_signaling (T : Tx K mg) : Okd P w K mg base 1 ("is_signaling", none) ["a"] (sp_is_signaling K) := by
  obtain ⟨fd, F⟩ := T.d_is_signaling
  refine ⟨fd, F.ok sc_is_signaling (fun vs H Q E h => ?_) (fun cdv A outer s H vs Q E hr h => ⟨_, PSs.nox ((pss_one (ps_ret (pe_cmpR op_eq (pe_fld (pv 0) rfl) (pe_gS (by rfl) T.c_SIGNALING) (nomark _))))), ?_⟩), F.bindsN (fun _ _ _ _ _ _ us hl => match us, hl with | [_], _ => rfl), F.kp⟩
  · obtain ⟨v, s, c, e, rfl, _⟩ := h
    rfl
  · obtain ⟨v, s, c, e, rfl, ⟨⟨p, dx, rfl, hp⟩, g⟩, k⟩ := h
    walk_at "rd"
    walk_at "ff"
    exact ⟨(ScE.of g.ex).scal _, k⟩
theorem ok_is_zero (T : Tx K mg) : Okd P w K mg base 3 ("is_zero", none) ["a"] (sp_is_zero K) := by
  obtain ⟨fd_is_finite, G_is_finite, b_is_finite, k_is_finite⟩ := ok_is_finite (P := P) (w := w) (base := base) T
  obtain ⟨fd, F⟩ := T.d_is_zero
  refine ⟨fd, F.ok sc_is_zero (fun vs H Q E h => ?_) (fun cdv A outer s H vs Q E hr h => ⟨_, PSs.nox ((pss_one (ps_ret (pe_and (pe_call G_is_finite (hr.mono (by decide)) (by rfl) T.g_is_finite k_is_finite b_is_finite .nil pass0 (pa_cons (pv 0) pa_nil)) (pe_one (pe_cmpR op_eq (pe_fld (pv 0) rfl) pe_int (nomark _))))))), ?_⟩), F.bindsN (fun _ _ _ _ _ _ us hl => match us, hl with | [_], _ => rfl), F.kp⟩
  · obtain ⟨v, s, c, e, rfl, _⟩ := h
    rfl
  · obtain ⟨v, s, c, e, rfl, dg, k⟩ := h
    have dg' := dg
    obtain ⟨⟨p, dx, rfl, hp⟩, g⟩ := dg'
    walk_at "rd"
    refine ⟨_, s, c, e, rfl, dg, _, rfl, ?_⟩
    cases h : isInt e with
    | true =>
      rw [h] at k
      refine iteT ?_
      walk_at "ff"
      rw [Bool.true_and] at k
      exact k
    | false =>
      rw [h] at k
      exact iteF k
end

section
variable {P : Program} {w : World} {K : PySem.W.Frag} {mg : Str → Option Value} {base : Heap}
theorem ok_Rules___init__ (T : Tx K mg) : Okd P w K mg base 1 ("Rules", some "__init__") ["self", "prec", "rounding", "emin", "emax", "clamp"] (spIn (He.ga K "Rules") ruOk) := by
  obtain ⟨fd, F⟩ := T.d_Rules___init__
  refine ⟨fd, F.ok sc_Rules___init__ (fun vs H Q E h => ?_) (fun cdv A outer s H vs Q E hr h => ⟨_, PSs.nox ((pss_cons (ps_fld (pv 0) (pv 1) rfl)
 (pss_cons (ps_fld (pv 0) (pv 2) rfl)
 (pss_cons (ps_fld (pv 0) (pv 3) rfl)
 (pss_cons (ps_fld (pv 0) (pv 4) rfl)
 (pss_one (ps_fld (pv 0) (pv 5) rfl))))))), ?_⟩), F.bindsN (fun _ _ _ _ _ _ us hl => match us, hl with | [_, _, _, _, _, _], _ => rfl), F.kp⟩
  · obtain ⟨H0, p, dx, args, fs, rfl, _, _, _, ⟨r, rfl, _⟩, _⟩ := h
    rfl
  · obtain ⟨H0, p, dx, args, fs, rfl, s0, p0, hp, ⟨r, rfl, rfl⟩, k⟩ := h
    walk_at "rd"
    refine ⟨_, dx, _, hp, T.cl_Rules, T.no_Rules_prec, by decide, _, dx, _, upd_same, T.cl_Rules, T.no_Rules_rounding, (show 1 < 1000 by decide), _, dx, _, upd_same, T.cl_Rules, T.no_Rules_emin, (show 2 < 1000 by decide), _, dx, _, upd_same, T.cl_Rules, T.no_Rules_emax, (show 3 < 1000 by decide), _, dx, _, upd_same, T.cl_Rules, T.no_Rules_clamp, (show 4 < 1000 by decide), ?_⟩
    refine k _ (fun b o hb => ?_) upd_same
    have nb : b ≠ p := fun q => by
      rw [q, p0] at hb
      cases hb
    rw [upd_ne nb, upd_ne nb, upd_ne nb, upd_ne nb, upd_ne nb]
    exact s0 _ _ hb
theorem ok_Rules_etiny (T : Tx K mg) : Okd P w K mg base 1 ("Rules", some "etiny") ["self"] (sp_etiny K) := by
  obtain ⟨fd, F⟩ := T.d_Rules_etiny
  refine ⟨fd, F.ok sc_Rules_etiny (fun vs H Q E h => ?_) (fun cdv A outer s H vs Q E hr h => ⟨_, PSs.nox ((pss_one (ps_ret (pe_op op_add (pe_op op_sub (pe_fld (pv 0) rfl) (pe_fld (pv 0) rfl)) pe_int)))), ?_⟩), F.bindsN (fun _ _ _ _ _ _ us hl => match us, hl with | [_], _ => rfl), F.kp⟩
  · obtain ⟨v, r, rfl, _⟩ := h
    rfl
  · obtain ⟨v, r, rfl, ⟨p, dx, rfl, hp⟩, k⟩ := h
    walk_at "rd"
    walk_at "ff"
    exact k
theorem ok_Rules_etop (T : Tx K mg) : Okd P w K mg base 1 ("Rules", some "etop") ["self"] (sp_etop K) := by
  obtain ⟨fd, F⟩ := T.d_Rules_etop
  refine ⟨fd, F.ok sc_Rules_etop (fun vs H Q E h => ?_) (fun cdv A outer s H vs Q E hr h => ⟨_, PSs.nox ((pss_one (ps_ret (pe_op op_add (pe_op op_sub (pe_fld (pv 0) rfl) (pe_fld (pv 0) rfl)) pe_int)))), ?_⟩), F.bindsN (fun _ _ _ _ _ _ us hl => match us, hl with | [_], _ => rfl), F.kp⟩
  · obtain ⟨v, r, rfl, _⟩ := h
    rfl
  · obtain ⟨v, r, rfl, ⟨p, dx, rfl, hp⟩, k⟩ := h
    walk_at "rd"
    walk_at "ff"
    exact k
end

section
variable {P : Program} {w : World} {K : PySem.W.Frag} {mg : Str → Option Value} {base : Heap}
theorem ok_finish_zero (T : Tx K mg) : Okd P w K mg base 8 ("finish_zero", none) ["rules", "sign", "exponent"] (sp_finish_zero K) := by
  obtain ⟨fd_Rules_etop, G_Rules_etop, b_Rules_etop, k_Rules_etop⟩ := ok_Rules_etop (P := P) (w := w) (base := base) T
  obtain ⟨fd_Rules_etiny, G_Rules_etiny, b_Rules_etiny, k_Rules_etiny⟩ := ok_Rules_etiny (P := P) (w := w) (base := base) T
  obtain ⟨fd_Decimal___init__, G_Decimal___init__, b_Decimal___init__, k_Decimal___init__⟩ := ok_Decimal___init__ (P := P) (w := w) (base := base) T
  obtain ⟨fd, F⟩ := T.d_finish_zero
  refine ⟨fd, F.ok sc_finish_zero (fun vs H Q E h => ?_) (fun cdv A outer s H vs Q E hr h => ⟨_, PSs.nox ((pss_cons (ps_set (i := 3) sc_finish_zero.nd rfl (Or.inl rfl) (pe_ifExp (pt_cmpR op_eq (pe_fld (pv 0) rfl) pe_int (nomark _)) (pe_meth0 (pv 0) T.cl_Rules T.me_Rules_etop G_Rules_etop (hr.mono (by decide)) b_Rules_etop .nil pass0) (pe_fld (pv 0) rfl)))
 (pss_cons (ps_set (i := 4) sc_finish_zero.nd rfl (Or.inl rfl) (pe_callB (min_i rfl) (by rfl) T.n_min (by decide +kernel) (pa_cons (pe_callB (max_i rfl) (by rfl) T.n_max (by decide +kernel) (pa_cons (pv 2) (pa_cons (pe_meth0 (pv 0) T.cl_Rules T.me_Rules_etiny G_Rules_etiny (hr.mono (by decide)) b_Rules_etiny .nil pass0) pa_nil))) (pa_cons (pv 3) pa_nil))))
 (pss_one (ps_ret (n_tup (pa_cons (n_make T.m_Decimal G_Decimal___init__ (hr.mono (by decide)) (by rfl) T.g_Decimal b_Decimal___init__ (pa_cons (pv 1) (pa_cons pe_int (pa_cons (pv 4) pa_nil)))) (pa_cons (pe_ifExp (pt_cmpR op_eq (pv 4) (pv 2) (nomark _)) (n_tup pa_nil) (n_tup (pa_cons pe_str pa_nil))) pa_nil)))))))), ?_⟩), F.bindsN (fun _ _ _ _ _ _ us hl => match us, hl with | [_, _, _], _ => rfl), F.kp⟩
  · obtain ⟨rv, r, s, e, rfl, _⟩ := h
    rfl
  · obtain ⟨rv, r, s, e, rfl, hr0, hs, k⟩ := h
    have hr' := hr0
    obtain ⟨p, dx, rfl, hp⟩ := hr'
    have tail : ∀ H1, Same H H1 → ∀ m : Int, m = zExp r e → ∃ fs, decOk [V.int s, V.int 0, V.int m] fs ∧ newI (He.ga K "Decimal") fs H1 fun x H1 =>
        if decide (m = e) = true then 0 ≤ 100000 ∧ newO (HO.tup []) H1 fun y H1 => 2 ≤ 100000 ∧ newO (HO.tup [x, y]) H1 Q
        else 1 ≤ 100000 ∧ newO (HO.tup [V.str "Clamped"]) H1 fun y H1 => 2 ≤ 100000 ∧ newO (HO.tup [x, y]) H1 Q := by
      intro H1 e1 m hm
      refine ⟨_, ⟨s, 0, _, rfl, goodI hs (by decide), rfl⟩, fun d dx2 H2 e2 nd hd => iteD (fun h => ⟨by decide, fun q H3 e3 nq hq => ⟨by decide, fun p4 H4 e4 np hp4 => ?_⟩⟩) (fun h => ⟨by decide, fun q H3 e3 nq hq => ⟨by decide, fun p4 H4 e4 np hp4 => ?_⟩⟩)⟩
      · refine k _ H4 (Same.tr e1 (Same.tr e2 (Same.tr e3 e4))) ⟨p4, _, q, rfl, hp4, ⟨⟨d, dx2, rfl, ?_⟩, goodI hs (by decide)⟩, ?_⟩
        · rw [← hm]
          exact e4 _ _ (e3 _ _ hd)
        · have z : zWords r e = [] := by
            unfold zWords
            rw [← hm]
            exact if_pos h
          rw [z]
          exact e4 _ _ hq
      · refine k _ H4 (Same.tr e1 (Same.tr e2 (Same.tr e3 e4))) ⟨p4, _, q, rfl, hp4, ⟨⟨d, dx2, rfl, ?_⟩, goodI hs (by decide)⟩, ?_⟩
        · rw [← hm]
          exact e4 _ _ (e3 _ _ hd)
        · have z : zWords r e = (["Clamped"] : List Str) := by
            unfold zWords
            rw [← hm]
            exact if_neg h
          rw [z]
          exact e4 _ _ hq
    walk_at "rd"
    walk_at "ff"
    refine iteD (fun h => ?_) (fun h => ?_)
    · refine ⟨_, r, rfl, hr0, ?_⟩
      refine ⟨dx, _, hp, rfl, _, r, rfl, hr0, ?_⟩
      refine ⟨_, rfl, _, rfl, tail H Same.rfl' _ ?_⟩
      show _ = min _ (zTop r)
      rw [zTop, if_pos h]
    · refine ⟨_, r, rfl, hr0, ?_⟩
      refine ⟨_, rfl, tail H Same.rfl' _ ?_⟩
      show _ = min _ (zTop r)
      rw [zTop, if_neg h]
theorem ok_finish_parts (T : Tx K mg) : Okd P w K mg base 9 ("finish_parts", none) ["rules", "sign", "coefficient", "exponent"] (sp_finish_parts K) := by
  obtain ⟨fd_finish_zero, G_finish_zero, b_finish_zero, k_finish_zero⟩ := ok_finish_zero (P := P) (w := w) (base := base) T
  obtain ⟨fd, F⟩ := T.d_finish_parts
  refine ⟨fd, F.ok sc_finish_parts (fun vs H Q E h => ?_) (fun cdv A outer s H vs Q E hr h => ⟨_, PSs.nox ((pss_cons (ps_if (pt_cmpR op_eq (pv 2) pe_int (nomark _))
 (pss_one (ps_ret (pe_call G_finish_zero (hr.mono (by decide)) (by rfl) T.g_finish_zero k_finish_zero b_finish_zero .nil pass0 (pa_cons (pv 0) (pa_cons (pv 1) (pa_cons (pv 3) pa_nil))))))
 pss_nil)
 (pss_cons ps_never (pss_cons ps_never (pss_cons ps_never (pss_cons ps_never (pss_cons ps_never (pss_cons ps_never (pss_one ps_never))))))))), ?_⟩), F.bindsN (fun _ _ _ _ _ _ us hl => match us, hl with | [_, _, _, _], _ => rfl), F.kp⟩
  · obtain ⟨rv, r, s, e, rfl, _⟩ := h
    rfl
  · obtain ⟨rv, r, s, e, rfl, hr0, hs, k⟩ := h
    walk_at "rd"
    exact ⟨rv, r, s, e, rfl, hr0, hs, k⟩
theorem ok_finish (T : Tx K mg) : Okd P w K mg base 10 ("finish", none) ["rules", "a"] (sp_finish K) := by
  obtain ⟨fd_is_infinite, G_is_infinite, b_is_infinite, k_is_infinite⟩ := ok_is_infinite (P := P) (w := w) (base := base) T
  obtain ⟨fd_is_nan, G_is_nan, b_is_nan, k_is_nan⟩ := ok_is_nan (P := P) (w := w) (base := base) T
  obtain ⟨fd_finish_parts, G_finish_parts, b_finish_parts, k_finish_parts⟩ := ok_finish_parts (P := P) (w := w) (base := base) T
  obtain ⟨fd, F⟩ := T.d_finish
  refine ⟨fd, F.ok sc_finish (fun vs H Q E h => ?_) (fun cdv A outer s H vs Q E hr h => ⟨_, PSs.nox ((pss_cons (ps_if (pt_val (pe_call G_is_infinite (hr.mono (by decide)) (by rfl) T.g_is_infinite k_is_infinite b_is_infinite .nil pass0 (pa_cons (pv 1) pa_nil)))
 (pss_one ps_never)
 pss_nil)
 (pss_cons (ps_if (pt_val (pe_call G_is_nan (hr.mono (by decide)) (by rfl) T.g_is_nan k_is_nan b_is_nan .nil pass0 (pa_cons (pv 1) pa_nil)))
 (pss_one ps_never)
 pss_nil)
 (pss_one (ps_ret (pe_call G_finish_parts (hr.mono (by decide)) (by rfl) T.g_finish_parts k_finish_parts b_finish_parts .nil pass0 (pa_cons (pv 0) (pa_cons (pe_fld (pv 1) rfl) (pa_cons (pe_fld (pv 1) rfl) (pa_cons (pe_fld (pv 1) rfl) pa_nil)))))))))), ?_⟩), F.bindsN (fun _ _ _ _ _ _ us hl => match us, hl with | [_, _], _ => rfl), F.kp⟩
  · obtain ⟨rv, a, r, s, e, rfl, _⟩ := h
    rfl
  · obtain ⟨rv, a, r, s, e, rfl, hr0, hd, k⟩ := h
    have hd' := hd
    obtain ⟨⟨p, dx, rfl, hp⟩, g⟩ := hd'
    walk_at "rd"
    refine ⟨_, s, 0, _, rfl, hd, false, rfl, iteF ⟨_, s, 0, _, rfl, hd, false, rfl, iteF ?_⟩⟩
    walk_at "ff"
    exact ⟨rv, r, s, e, rfl, hr0, g.sg, k⟩
end

section
variable {P : Program} {w : World} {K : PySem.W.Frag} {mg : Str → Option Value} {base : Heap}
theorem ok_nan_of (T : Tx K mg) : Okd P w K mg base 4 ("nan_of", none) ["rules", "operands"] (sp_nan_of K) := by
  obtain ⟨fd_is_signaling, G_is_signaling, b_is_signaling, k_is_signaling⟩ := ok_is_signaling (P := P) (w := w) (base := base) T
  obtain ⟨fd_is_nan, G_is_nan, b_is_nan, k_is_nan⟩ := ok_is_nan (P := P) (w := w) (base := base) T
  obtain ⟨fd, F⟩ := T.d_nan_of
  refine ⟨fd, F.ok sc_nan_of (fun vs H Q E h => ?_) (fun cdv A outer s H vs Q E hr h => ⟨_, PSs.nox ((pss_cons (n_setL (ps_setLc (i := 2) (own := [("one", 6)]) (g := gName 6) (by rfl) sc_nan_of.nd rfl rfl (sw_true rfl rfl rfl (by decide +kernel)) (pi_list (pv 1)) (blkOk_by (own := [("one", 6)]) (N := ["rules", "operands", "some", "signaling", "chosen", "quiet", "one"]) (sc := defScope s_nan_of) (by decide +kernel)) (fun _ _ _ _ _ => pg_name (i := 6) sc_nan_of.nd rfl (Or.inl rfl)) (fun _ _ _ _ _ => (pts_one (pt_val (pe_call G_is_nan (hr.mono (by decide)) (by rfl) T.g_is_nan k_is_nan b_is_nan .nil pass0 (pa_cons (pv 6) pa_nil))))) (fun _ _ _ _ _ => (pv 6))))
 (pss_cons (n_setL (ps_setLc (i := 3) (own := [("one", 6)]) (g := gName 6) (by rfl) sc_nan_of.nd rfl rfl (sw_true rfl rfl rfl (by decide +kernel)) (pi_list (pv 2)) (blkOk_by (own := [("one", 6)]) (N := ["rules", "operands", "some", "signaling", "chosen", "quiet", "one"]) (sc := defScope s_nan_of) (by decide +kernel)) (fun _ _ _ _ _ => pg_name (i := 6) sc_nan_of.nd rfl (Or.inl rfl)) (fun _ _ _ _ _ => (pts_one (pt_val (pe_call G_is_signaling (hr.mono (by decide)) (by rfl) T.g_is_signaling k_is_signaling b_is_signaling .nil pass0 (pa_cons (pv 6) pa_nil))))) (fun _ _ _ _ _ => (pv 6))))
 (pss_cons (ps_if (pt_cmpR op_eq (pe_callB len_l (by rfl) T.n_len (by decide +kernel) (pa_cons (pv 2) pa_nil)) pe_int (nomark _))
 (pss_one (ps_ret pe_non))
 pss_nil)
 (pss_cons ps_never (pss_cons ps_never (pss_one ps_never))))))), ?_⟩), F.bindsN (fun _ _ _ _ _ _ us hl => match us, hl with | [_, _], _ => rfl), F.kp⟩
  · obtain ⟨rv, lp, a, s, c, n, rfl, _⟩ := h
    rfl
  · obtain ⟨rv, lp, a, s, c, n, rfl, hl, hd, k⟩ := h
    walk_at "rd"
    refine ⟨_, hl, (by show 1 ≤ 100000; decide), fun _ => none, ?_, fun D1 H1 e1 n1 d1 => ?_⟩
    · intro x hx H1 e1 yes no hy hn
      have ex : x = a := by simpa using hx
      subst ex
      exact ⟨x, s, c, _, rfl, hd.mono e1, false, rfl, iteF (hn rfl _ Same.rfl')⟩
    · refine ⟨D1, rfl, _, d1, (by show 0 ≤ 100000; decide), fun _ => none, ?_, fun D2 H2 e2 n2 d2 => ?_⟩
      · intro x hx
        exact absurd hx (by simp)
      · exact ⟨D1, rfl, _, e2 _ _ d1, iteT (k _ (Same.tr e1 e2))⟩
theorem ok_with_sign_sums (T : Tx K mg) : Okd P w K mg base 11 ("with_sign_sums", none) ["rules", "a", "sign"] (sp_with_sign_sums K) := by
  obtain ⟨fd_is_zero, G_is_zero, b_is_zero, k_is_zero⟩ := ok_is_zero (P := P) (w := w) (base := base) T
  obtain ⟨fd_finish, G_finish, b_finish, k_finish⟩ := ok_finish (P := P) (w := w) (base := base) T
  obtain ⟨fd_Decimal___init__, G_Decimal___init__, b_Decimal___init__, k_Decimal___init__⟩ := ok_Decimal___init__ (P := P) (w := w) (base := base) T
  obtain ⟨fd, F⟩ := T.d_with_sign_sums
  refine ⟨fd, F.ok sc_with_sign_sums (fun vs H Q E h => ?_) (fun cdv A outer s H vs Q E hr h => ⟨_, PSs.nox ((pss_cons (ps_if (PW.pt (pw_and (pt_val (pe_call G_is_zero (hr.mono (by decide)) (by rfl) T.g_is_zero k_is_zero b_is_zero .nil pass0 (pa_cons (pv 1) pa_nil))) (pw_and1 (pt_cmpR op_ne (pe_fld (pv 0) rfl) pe_str (nomark _)))))
 (pss_one (ps_set (i := 2) sc_with_sign_sums.nd rfl (Or.inl rfl) pe_int))
 pss_nil)
 (pss_one (ps_ret (pe_call G_finish (hr.mono (by decide)) (by rfl) T.g_finish k_finish b_finish .nil pass0 (pa_cons (pv 0) (pa_cons (n_make T.m_Decimal G_Decimal___init__ (hr.mono (by decide)) (by rfl) T.g_Decimal b_Decimal___init__ (pa_cons (pv 2) (pa_cons (pe_fld (pv 1) rfl) (pa_cons (pe_fld (pv 1) rfl) pa_nil)))) pa_nil))))))), ?_⟩), F.bindsN (fun _ _ _ _ _ _ us hl => match us, hl with | [_, _, _], _ => rfl), F.kp⟩
  · obtain ⟨rv, a, r, s0, s, n, rfl, _⟩ := h
    rfl
  · obtain ⟨rv, a, r, s0, s, n, rfl, hr0, hd, hs, k⟩ := h
    have hd' := hd
    obtain ⟨⟨p, dx, rfl, hp⟩, g⟩ := hd'
    have hr' := hr0
    obtain ⟨pr, dxr, rfl, hq⟩ := hr'
    walk_at "rd"
    refine ⟨_, s0, 0, _, rfl, hd, true, rfl, iteT ?_⟩
    walk_at "ff"
    refine iteND (fun h => ?_) (fun h => ?_)
    · refine ⟨_, ⟨0, 0, _, rfl, goodI (.inl rfl) (by decide), rfl⟩, fun d dx2 H2 e2 nd hd2 => ?_⟩
      refine ⟨_, _, r, 0, n, rfl, hr0.mono e2, ⟨⟨d, dx2, rfl, hd2⟩, goodI (.inl rfl) (by decide)⟩, fun v H' e' o => k v H' (Same.tr e2 e') ?_⟩
      have z : zSign r s = 0 := if_neg h
      rw [z]
      exact o
    · refine ⟨_, ⟨s, 0, _, rfl, goodI hs (by decide), rfl⟩, fun d dx2 H2 e2 nd hd2 => ?_⟩
      refine ⟨_, _, r, s, n, rfl, hr0.mono e2, ⟨⟨d, dx2, rfl, hd2⟩, goodI hs (by decide)⟩, fun v H' e' o => k v H' (Same.tr e2 e') ?_⟩
      have z : zSign r s = s := if_pos h
      rw [z]
      exact o
theorem ok_plus (T : Tx K mg) : Okd P w K mg base 12 ("plus", none) ["rules", "a"] (sp_un K fun s => s) := by
  obtain ⟨fd_nan_of, G_nan_of, b_nan_of, k_nan_of⟩ := ok_nan_of (P := P) (w := w) (base := base) T
  obtain ⟨fd_with_sign_sums, G_with_sign_sums, b_with_sign_sums, k_with_sign_sums⟩ := ok_with_sign_sums (P := P) (w := w) (base := base) T
  obtain ⟨fd, F⟩ := T.d_plus
  refine ⟨fd, F.ok sc_plus (fun vs H Q E h => ?_) (fun cdv A outer s H vs Q E hr h => ⟨_, PSs.nox ((pss_cons (ps_set (i := 2) sc_plus.nd rfl (Or.inl rfl) (pe_call G_nan_of (hr.mono (by decide)) (by rfl) T.g_nan_of k_nan_of b_nan_of .nil pass0 (pa_cons (pv 0) (pa_cons (n_lst (pa_cons (pv 1) pa_nil)) pa_nil))))
 (pss_one (ps_ret (pe_ifExp (pt_cmpR op_isN (pv 2) pe_non (nomark _)) (pe_call G_with_sign_sums (hr.mono (by decide)) (by rfl) T.g_with_sign_sums k_with_sign_sums b_with_sign_sums .nil pass0 (pa_cons (pv 0) (pa_cons (pv 1) (pa_cons (pe_fld (pv 1) rfl) pa_nil)))) (pv 2)))))), ?_⟩), F.bindsN (fun _ _ _ _ _ _ us hl => match us, hl with | [_, _], _ => rfl), F.kp⟩
  · obtain ⟨rv, a, r, s, n, rfl, _⟩ := h
    rfl
  · obtain ⟨rv, a, r, s, n, rfl, hr0, hd, k⟩ := h
    have g := hd.good
    have hd' := hd
    obtain ⟨⟨p, dx, rfl, hp0⟩, _⟩ := hd'
    walk_at "rd"
    refine ⟨by decide, fun l H1 e1 nl hl => ?_⟩
    refine ⟨_, l, _, s, 0, n, rfl, hl, hd.mono e1, fun H2 e2 => iteD (fun _ => ?_) (fun h => absurd rfl h)⟩
    have hp := e2 _ _ (e1 _ _ hp0)
    walk_at "ff"
    exact ⟨_, _, r, s, s, n, rfl, hr0.mono (Same.tr e1 e2), hd.mono (Same.tr e1 e2), g.sg, fun v H' e' o => k v H' (Same.tr e1 (Same.tr e2 e')) o⟩
theorem ok_minus (T : Tx K mg) : Okd P w K mg base 12 ("minus", none) ["rules", "a"] (sp_un K fun s => 1 - s) := by
  obtain ⟨fd_nan_of, G_nan_of, b_nan_of, k_nan_of⟩ := ok_nan_of (P := P) (w := w) (base := base) T
  obtain ⟨fd_with_sign_sums, G_with_sign_sums, b_with_sign_sums, k_with_sign_sums⟩ := ok_with_sign_sums (P := P) (w := w) (base := base) T
  obtain ⟨fd, F⟩ := T.d_minus
  refine ⟨fd, F.ok sc_minus (fun vs H Q E h => ?_) (fun cdv A outer s H vs Q E hr h => ⟨_, PSs.nox ((pss_cons (ps_set (i := 2) sc_minus.nd rfl (Or.inl rfl) (pe_call G_nan_of (hr.mono (by decide)) (by rfl) T.g_nan_of k_nan_of b_nan_of .nil pass0 (pa_cons (pv 0) (pa_cons (n_lst (pa_cons (pv 1) pa_nil)) pa_nil))))
 (pss_one (ps_ret (pe_ifExp (pt_cmpR op_isN (pv 2) pe_non (nomark _)) (pe_call G_with_sign_sums (hr.mono (by decide)) (by rfl) T.g_with_sign_sums k_with_sign_sums b_with_sign_sums .nil pass0 (pa_cons (pv 0) (pa_cons (pv 1) (pa_cons (pe_op op_sub pe_int (pe_fld (pv 1) rfl)) pa_nil)))) (pv 2)))))), ?_⟩), F.bindsN (fun _ _ _ _ _ _ us hl => match us, hl with | [_, _], _ => rfl), F.kp⟩
  · obtain ⟨rv, a, r, s, n, rfl, _⟩ := h
    rfl
  · obtain ⟨rv, a, r, s, n, rfl, hr0, hd, k⟩ := h
    have g := hd.good
    have hd' := hd
    obtain ⟨⟨p, dx, rfl, hp0⟩, _⟩ := hd'
    walk_at "rd"
    refine ⟨by decide, fun l H1 e1 nl hl => ?_⟩
    refine ⟨_, l, _, s, 0, n, rfl, hl, hd.mono e1, fun H2 e2 => iteD (fun _ => ?_) (fun h => absurd rfl h)⟩
    have hp := e2 _ _ (e1 _ _ hp0)
    walk_at "ff"
    exact ⟨_, _, r, s, 1 - s, n, rfl, hr0.mono (Same.tr e1 e2), hd.mono (Same.tr e1 e2), by have := g.sg; omega, fun v H' e' o => k v H' (Same.tr e1 (Same.tr e2 e')) o⟩
theorem ok_absolute (T : Tx K mg) : Okd P w K mg base 13 ("absolute", none) ["rules", "a"] (sp_un K fun s => 0) := by
  obtain ⟨fd_minus, G_minus, b_minus, k_minus⟩ := ok_minus (P := P) (w := w) (base := base) T
  obtain ⟨fd_plus, G_plus, b_plus, k_plus⟩ := ok_plus (P := P) (w := w) (base := base) T
  obtain ⟨fd, F⟩ := T.d_absolute
  refine ⟨fd, F.ok sc_absolute (fun vs H Q E h => ?_) (fun cdv A outer s H vs Q E hr h => ⟨_, PSs.nox ((pss_one (ps_ret (pe_ifExp (pt_cmpR op_eq (pe_fld (pv 1) rfl) pe_int (nomark _)) (pe_call G_minus (hr.mono (by decide)) (by rfl) T.g_minus k_minus b_minus .nil pass0 (pa_cons (pv 0) (pa_cons (pv 1) pa_nil))) (pe_call G_plus (hr.mono (by decide)) (by rfl) T.g_plus k_plus b_plus .nil pass0 (pa_cons (pv 0) (pa_cons (pv 1) pa_nil))))))), ?_⟩), F.bindsN (fun _ _ _ _ _ _ us hl => match us, hl with | [_, _], _ => rfl), F.kp⟩
  · obtain ⟨rv, a, r, s, n, rfl, _⟩ := h
    rfl
  · obtain ⟨rv, a, r, s, n, rfl, hr0, hd, k⟩ := h
    have g := hd.good
    have hd' := hd
    obtain ⟨⟨p, dx, rfl, hp⟩, _⟩ := hd'
    walk_at "rd"
    walk_at "ff"
    refine iteD (fun h => ?_) (fun h => ?_)
    · refine ⟨_, _, r, s, n, rfl, hr0, hd, ?_⟩
      rw [h]
      exact k
    · refine ⟨_, _, r, s, n, rfl, hr0, hd, ?_⟩
      have z : s = 0 := by
        have := g.sg
        omega
      rw [z]
      exact k
end

section
variable {P : Program} {w : World} {K : PySem.W.Frag} {mg : Str → Option Value} {base : Heap}
theorem ok_decimal_of (T : Tx K mg) : Okd P w K mg base 2 ("decimal_of", none) ["operand"] (sp_decimal_of K) := by
  obtain ⟨fd, F⟩ := T.d_decimal_of
  refine ⟨fd, F.ok sc_decimal_of (fun vs H Q E h => ?_) (fun cdv A outer s H vs Q E hr h => ⟨_, PSs.nox ((pss_cons (ps_if (pt_val (pe_callB (isi_own T.cl_Decimal T.ow_Decimal) (by rfl) T.n_isinstance (by decide +kernel) (pa_cons (pv 0) (pa_cons (pe_gR (by rfl) T.g_Decimal) pa_nil))))
 (pss_one (ps_ret (pv 0)))
 pss_nil)
 (pss_cons ps_never (pss_one ps_never)))), ?_⟩), F.bindsN (fun _ _ _ _ _ _ us hl => match us, hl with | [_], _ => rfl), F.kp⟩
  · obtain ⟨v, s, c, e, rfl, _⟩ := h
    rfl
  · obtain ⟨v, s, c, e, rfl, ⟨⟨p, dx, rfl, hp⟩, g⟩, k⟩ := h
    walk_at "rd"
    exact .inl ⟨p, dx, _, rfl, hp, true, rfl, iteT k⟩
theorem ok_signal_of (T : Tx K mg) : Okd P w K mg base 1 ("signal_of", none) ["condition"] sp_signal_of := by
  obtain ⟨fd, F⟩ := T.d_signal_of
  refine ⟨fd, F.ok sc_signal_of (fun vs H Q E h => ?_) (fun cdv A outer s H vs Q E hr h => ⟨_, PSs.nox ((pss_one (ps_ret (pe_ifExp (pt_inG (pv 0) (by rfl) T.g_INVALID T.t_INVALID) pe_str (pv 0))))), ?_⟩), F.bindsN (fun _ _ _ _ _ _ us hl => match us, hl with | [_], _ => rfl), F.kp⟩
  · obtain ⟨z, rfl, _⟩ := h
    rfl
  · obtain ⟨z, rfl, k⟩ := h
    walk_at "rd"
    have e : inV (.str z) [.str "InvalidOperation", .str "ConversionSyntax", .str "DivisionImpossible", .str "DivisionUndefined"] = decide (z = "InvalidOperation" ∨ z = "ConversionSyntax" ∨ z = "DivisionImpossible" ∨ z = "DivisionUndefined") := by
      show (("InvalidOperation" : Str) == z || (("ConversionSyntax" : Str) == z || (("DivisionImpossible" : Str) == z || (("DivisionUndefined" : Str) == z || false)))) = _
      rw [Bool.or_false, str_beq, str_beq, str_beq, str_beq]
      rw [Bool.eq_iff_iff]
      simp only [Bool.or_eq_true, decide_eq_true_iff]
    rw [e]
    unfold sigOf at k
    refine iteD (fun h => ?_) (fun h => ?_)
    · rw [if_pos h] at k
      exact k
    · rw [if_neg h] at k
      exact k
theorem ok_with_one (T : Tx K mg) : Okd P w K mg base 14 ("with_one", none) ["rules", "name", "a"] (sp_with_one K) := by
  obtain ⟨fd_plus, G_plus, b_plus, k_plus⟩ := ok_plus (P := P) (w := w) (base := base) T
  obtain ⟨fd_absolute, G_absolute, b_absolute, k_absolute⟩ := ok_absolute (P := P) (w := w) (base := base) T
  obtain ⟨fd_minus, G_minus, b_minus, k_minus⟩ := ok_minus (P := P) (w := w) (base := base) T
  obtain ⟨fd, F⟩ := T.d_with_one
  refine ⟨fd, F.ok sc_with_one (fun vs H Q E h => ?_) (fun cdv A outer s H vs Q E hr h => ⟨_, PSs.nox ((pss_cons (ps_if (pt_cmpR op_eq (pv 1) pe_str (nomark _))
 (pss_one (ps_ret (pe_call G_plus (hr.mono (by decide)) (by rfl) T.g_plus k_plus b_plus .nil pass0 (pa_cons (pv 0) (pa_cons (pv 2) pa_nil)))))
 pss_nil)
 (pss_cons (ps_if (pt_cmpR op_eq (pv 1) pe_str (nomark _))
 (pss_one (ps_ret (pe_call G_absolute (hr.mono (by decide)) (by rfl) T.g_absolute k_absolute b_absolute .nil pass0 (pa_cons (pv 0) (pa_cons (pv 2) pa_nil)))))
 pss_nil)
 (pss_cons (ps_if (pt_cmpR op_eq (pv 1) pe_str (nomark _))
 (pss_one (ps_ret (pe_call G_minus (hr.mono (by decide)) (by rfl) T.g_minus k_minus b_minus .nil pass0 (pa_cons (pv 0) (pa_cons (pv 2) pa_nil)))))
 pss_nil)
 (pss_cons (ps_if (pt_cmpR op_eq (pv 1) pe_str (nomark _))
 (pss_one ps_never)
 pss_nil)
 (pss_cons (ps_if (pt_cmpR op_eq (pv 1) pe_str (nomark _))
 (pss_one ps_never)
 pss_nil)
 (pss_cons (ps_if (pt_cmpR op_eq (pv 1) pe_str (nomark _))
 (pss_one ps_never)
 pss_nil)
 (pss_cons (ps_if (pt_cmpR op_eq (pv 1) pe_str (nomark _))
 (pss_one ps_never)
 pss_nil)
 (pss_cons (ps_if (pt_cmpR op_eq (pv 1) pe_str (nomark _))
 (pss_one ps_never)
 pss_nil)
 (pss_cons (ps_if (pt_cmpR op_eq (pv 1) pe_str (nomark _))
 (pss_one ps_never)
 pss_nil)
 (pss_cons (ps_if (pt_cmpR op_eq (pv 1) pe_str (nomark _))
 (pss_one ps_never)
 pss_nil)
 (pss_cons (ps_if (pt_cmpR op_eq (pv 1) pe_str (nomark _))
 (pss_one ps_never)
 pss_nil)
 (pss_cons (ps_if (pt_cmpR op_eq (pv 1) pe_str (nomark _))
 (pss_one ps_never)
 pss_nil)
 (pss_cons (ps_if (pt_cmpR op_eq (pv 1) pe_str (nomark _))
 (pss_one ps_never)
 pss_nil)
 (pss_cons (ps_if (pt_cmpR op_eq (pv 1) pe_str (nomark _))
 (pss_one ps_never)
 pss_nil)
 (pss_cons (ps_if (pt_cmpR op_eq (pv 1) pe_str (nomark _))
 (pss_one ps_never)
 pss_nil)
 (pss_cons (ps_if (pt_cmpR op_eq (pv 1) pe_str (nomark _))
 (pss_one ps_never)
 pss_nil)
 (pss_one ps_never)))))))))))))))))), ?_⟩), F.bindsN (fun _ _ _ _ _ _ us hl => match us, hl with | [_, _, _], _ => rfl), F.kp⟩
  · obtain ⟨rv, z, a, r, s, n, f, rfl, _⟩ := h
    rfl
  · obtain ⟨rv, z, a, r, s, n, f, rfl, ho, hr0, hd, k⟩ := h
    walk_at "rd"
    cases ho with
    | plus => exact iteD (fun _ => ⟨_, _, r, s, n, rfl, hr0, hd, k⟩) fun h => absurd rfl h
    | absolute => exact iteD (fun h => absurd h (by decide +kernel)) fun _ => iteD (fun _ => ⟨_, _, r, s, n, rfl, hr0, hd, k⟩) fun h => absurd rfl h
    | minus => exact iteD (fun h => absurd h (by decide +kernel)) fun _ => iteD (fun h => absurd h (by decide +kernel)) fun _ => iteD (fun _ => ⟨_, _, r, s, n, rfl, hr0, hd, k⟩) fun h => absurd rfl h
theorem ok_outcome_of (T : Tx K mg) : Okd P w K mg base 15 ("outcome_of", none) ["rules", "name", "operands"] (sp_outcome_of K) := by
  obtain ⟨fd_with_one, G_with_one, b_with_one, k_with_one⟩ := ok_with_one (P := P) (w := w) (base := base) T
  obtain ⟨fd, F⟩ := T.d_outcome_of
  refine ⟨fd, F.ok sc_outcome_of (fun vs H Q E h => ?_) (fun cdv A outer s H vs Q E hr h => ⟨_, PSs.nox ((pss_cons (ps_if (pt_inG (pv 1) (by rfl) T.g_QUESTIONS T.t_QUESTIONS)
 (pss_one ps_never)
 pss_nil)
 (pss_cons (ps_if (pt_inG (pv 1) (by rfl) T.g_COPIES T.t_COPIES)
 (pss_one ps_never)
 pss_nil)
 (pss_cons (ps_if (pt_cmpR op_eq (pv 1) pe_str (nomark _))
 (pss_one ps_never)
 pss_nil)
 (pss_cons (ps_if (pt_inG (pv 1) (by rfl) T.g_SINGLE T.t_SINGLE)
 (pss_one (ps_ret (pe_call G_with_one (hr.mono (by decide)) (by rfl) T.g_with_one k_with_one b_with_one .nil pass0 (pa_cons (pv 0) (pa_cons (pv 1) (pa_cons (pe_ix ix_t (pv 2) pe_int (fun _ _ => rfl)) pa_nil))))))
 pss_nil)
 (pss_cons ps_never (pss_cons ps_never (pss_one ps_never)))))))), ?_⟩), F.bindsN (fun _ _ _ _ _ _ us hl => match us, hl with | [_, _, _], _ => rfl), F.kp⟩
  · obtain ⟨rv, z, tp, a, r, s, n, f, rfl, _⟩ := h
    rfl
  · obtain ⟨rv, z, tp, a, r, s, n, f, rfl, ht, ho, hr0, hd, k⟩ := h
    walk_at "rd"
    cases ho with
    | plus => exact ite_no (by decide +kernel) (ite_no (by decide +kernel) (iteD (fun h => absurd h (by decide +kernel)) fun _ => ite_yes (by decide +kernel) ⟨_, ht, _, rfl, _, _, _, r, s, n, _, rfl, .plus, hr0, hd, k⟩))
    | minus => exact ite_no (by decide +kernel) (ite_no (by decide +kernel) (iteD (fun h => absurd h (by decide +kernel)) fun _ => ite_yes (by decide +kernel) ⟨_, ht, _, rfl, _, _, _, r, s, n, _, rfl, .minus, hr0, hd, k⟩))
    | absolute => exact ite_no (by decide +kernel) (ite_no (by decide +kernel) (iteD (fun h => absurd h (by decide +kernel)) fun _ => ite_yes (by decide +kernel) ⟨_, ht, _, rfl, _, _, _, r, s, n, _, rfl, .absolute, hr0, hd, k⟩))
theorem ok_is_operation (T : Tx K mg) : Okd P w K mg base 2 ("is_operation", none) ["name", "many"] sp_is_operation1 := by
  obtain ⟨fd, F⟩ := T.d_is_operation
  refine ⟨fd, F.ok sc_is_operation (fun vs H Q E h => ?_) (fun cdv A outer s H vs Q E hr h => ⟨_, PSs.nox ((pss_cons (ps_if (pt_not (pt_val (pe_callB isi_str (by rfl) T.n_isinstance (by decide +kernel) (pa_cons (pv 0) (pa_cons (pe_bltn (v := .ty "str") (by rfl) T.n_str (by decide +kernel) rfl) pa_nil)))))
 (pss_one (ps_ret pe_bl))
 pss_nil)
 (pss_cons (ps_if (pt_cmpR op_eq (pv 1) pe_int (nomark _))
 (pss_one (ps_ret (pe_or (pe_inG (pv 0) (by rfl) T.g_QUESTIONS T.t_QUESTIONS) (pe_or (pe_inG (pv 0) (by rfl) T.g_COPIES T.t_COPIES) (pe_one (pe_inG (pv 0) (by rfl) T.g_SINGLE T.t_SINGLE))))))
 pss_nil)
 (pss_cons ps_never (pss_one ps_never))))), ?_⟩), F.bindsN (fun _ _ _ _ _ _ us hl => match us, hl with | [_, _], _ => rfl), F.kp⟩
  · obtain ⟨z, f, rfl, _⟩ := h
    rfl
  · obtain ⟨z, f, rfl, ho, k⟩ := h
    walk_at "rd"
    cases ho with
    | plus => exact ite_no (by decide +kernel) (ite_no (by decide +kernel) (by rw [show inV (V.str "plus") _ = true from by decide +kernel]; exact k))
    | minus => exact ite_no (by decide +kernel) (ite_no (by decide +kernel) (by rw [show inV (V.str "minus") _ = true from by decide +kernel]; exact k))
    | absolute => exact ite_no (by decide +kernel) (ite_no (by decide +kernel) (by rw [show inV (V.str "absolute") _ = true from by decide +kernel]; exact k))
theorem ok_Context_told (T : Tx K mg) : Okd P w K mg base 16 ("Context", some "told") ["self", "name", "operands"] (sp_told K) := by
  obtain ⟨fd_is_operation, G_is_operation, b_is_operation, k_is_operation⟩ := ok_is_operation (P := P) (w := w) (base := base) T
  obtain ⟨fd_outcome_of, G_outcome_of, b_outcome_of, k_outcome_of⟩ := ok_outcome_of (P := P) (w := w) (base := base) T
  obtain ⟨fd_decimal_of, G_decimal_of, b_decimal_of, k_decimal_of⟩ := ok_decimal_of (P := P) (w := w) (base := base) T
  obtain ⟨fd_signal_of, G_signal_of, b_signal_of, k_signal_of⟩ := ok_signal_of (P := P) (w := w) (base := base) T
  obtain ⟨fd, F⟩ := T.d_Context_told
  refine ⟨fd, F.ok sc_Context_told (fun vs H Q E h => ?_) (fun cdv A outer s H vs Q E hr h => ⟨_, PSs.nox ((pss_cons (ps_if (PW.pt (pw_or (pt_not (pt_val (pe_callB isi_tuple (by rfl) T.n_isinstance (by decide +kernel) (pa_cons (pv 2) (pa_cons (pe_bltn (v := .ty "tuple") (by rfl) T.n_tuple (by decide +kernel) rfl) pa_nil))))) (pw_or1 (pt_not (pt_val (pe_call G_is_operation (hr.mono (by decide)) (by rfl) T.g_is_operation k_is_operation b_is_operation .nil pass0 (pa_cons (pv 1) (pa_cons (pe_callB len_t (by rfl) T.n_len (by decide +kernel) (pa_cons (pv 2) pa_nil)) pa_nil))))))))
 (pss_one ps_never)
 pss_nil)
 (pss_cons (ps_asg (pe_call G_outcome_of (hr.mono (by decide)) (by rfl) T.g_outcome_of k_outcome_of b_outcome_of .nil pass0 (pa_cons (pe_fld (pv 0) rfl) (pa_cons (pv 1) (pa_cons (pe_callTy tuple_l (by rfl) T.n_tuple (by decide +kernel) (pa_cons (n_lcT (pe_lc (own := [("operand", 5)]) (g := gName 5) (by rfl) sc_Context_told.nd (pi_tup (pv 2)) (blkOk_by (own := [("operand", 5)]) (N := ["self", "name", "operands", "result", "conditions", "operand", "condition"]) (sc := defScope s_Context_told) (by decide +kernel)) (fun _ _ _ _ _ => pg_name (i := 5) sc_Context_told.nd rfl (Or.inl rfl)) (fun _ _ _ _ _ => pts_nil) (fun _ _ _ _ _ => (pe_call G_decimal_of (hr.mono (by decide)) (by rfl) T.g_decimal_of k_decimal_of b_decimal_of .nil pass0 (pa_cons (pv 5) pa_nil))))) pa_nil)) pa_nil)))) (pg_tup (by rfl) (pgs_cons (pg_name (i := 3) sc_Context_told.nd rfl (Or.inl rfl)) (pgs_cons (pg_name (i := 4) sc_Context_told.nd rfl (Or.inl rfl)) pgs_nil))))
 (pss_one (ps_ret (n_tup (pa_cons (pv 3) (pa_cons (pe_callTy tuple_l (by rfl) T.n_tuple (by decide +kernel) (pa_cons (pe_callB (sorted_d rfl) (by rfl) T.n_sorted (by decide +kernel) (pa_cons (n_dcT (pe_dc (own := [("condition", 6)]) (g := gName 6) (by rfl) sc_Context_told.nd (pi_tup (pv 4)) (blkOk_by (own := [("condition", 6)]) (N := ["self", "name", "operands", "result", "conditions", "operand", "condition"]) (sc := defScope s_Context_told) (by decide +kernel)) (fun _ _ _ _ _ => pg_name (i := 6) sc_Context_told.nd rfl (Or.inl rfl)) (fun _ _ _ _ _ => pts_nil) (fun _ _ _ _ _ => (pe_call G_signal_of (hr.mono (by decide)) (by rfl) T.g_signal_of k_signal_of b_signal_of .nil pass0 (pa_cons (pv 6) pa_nil))) (fun _ _ _ _ _ => pe_bl))) pa_nil)) pa_nil)) pa_nil)))))))), ?_⟩), F.bindsN (fun _ _ _ _ _ _ us hl => match us, hl with | [_, _, _], _ => rfl), F.kp⟩
  · obtain ⟨cv, z, tp, a, r, s, n, f, rfl, _⟩ := h
    rfl
  · obtain ⟨cv, z, tp, a, r, s, n, f, rfl, ⟨p, dx, tr, ra, cap, rv, rfl, hp, hru⟩, ht, ho, hd, k⟩ := h
    walk_at "rd"
    refine ⟨_, ht, _, ht, z, f, rfl, ho, true, rfl, iteF ?_⟩
    walk_at "ff"
    refine ⟨_, ht, (by show 1 ≤ 100000; decide), fun v => some v, ?_, fun l H1 e1 nl hl => ⟨l, rfl, _, hl, fun t H2 e2 nt ht2 => ?_⟩⟩
    · intro x hx H1 e1 yes no hy hn
      have ex : x = a := by simpa using hx
      subst ex
      exact ⟨x, s, 0, _, rfl, hd.mono e1, hy _ rfl _ Same.rfl'⟩
    have e12 := Same.tr e1 e2
    refine ⟨rv, z, t, a, r, s, n, f, rfl, ht2, ho, hru.mono e12, hd.mono e12, fun v H3 e3 o => ?_⟩
    obtain ⟨p1, d1, q1, rfl, hp1, hd1, hq1⟩ := o
    refine ⟨p1, rfl, _, SqT.of hp1, rfl, ?_⟩
    refine ⟨_, _, rfl, _, _, rfl, rfl, q1, rfl, _, hq1, ?_, fun v => match v with | .str z => some (Sum.inr (sigOf z), .bl true) | _ => none, ?_, fun dp H4 e4 nd hd4 => ?_⟩
    · have hw : (zWords r n).length ≤ 1 := by
        unfold zWords
        split
        · exact Nat.zero_le _
        · exact Nat.le_refl _
      rw [List.length_map]
      exact Nat.le_trans hw (by decide)
    · intro x hx H1' e1' yes no hy hn
      obtain ⟨w', _, rfl⟩ := List.mem_map.mp hx
      exact ⟨w', rfl, hy _ _ rfl _ Same.rfl'⟩
    have hw : zWords r n = [] ∨ zWords r n = (["Clamped"] : List Str) := by
      unfold zWords
      split
      · exact .inl rfl
      · exact .inr rfl
    have e14 := Same.tr e12 (Same.tr e3 e4)
    rcases hw with hw | hw
    · rw [hw] at hd4
      refine ⟨dp, rfl, _, hd4, [], rfl, by decide, fun ys py sy l5 H5 e5 n5 hl5 => ⟨l5, rfl, _, hl5, fun t6 H6 e6 n6 ht6 => ⟨by decide, fun p7 H7 e7 n7 hp7 => ?_⟩⟩⟩
      have ey : ys = [] := List.Perm.eq_nil py
      subst ey
      refine k _ H7 (Same.tr e14 (Same.tr e5 (Same.tr e6 e7))) ⟨p7, d1, t6, rfl, hp7, hd1.mono (Same.tr e4 (Same.tr e5 (Same.tr e6 e7))), ?_⟩
      rw [hw]
      exact e7 _ _ ht6
    · rw [hw] at hd4
      refine ⟨dp, rfl, _, hd4, (["Clamped"] : List Str), ?_, (by show 1 < 64; decide), fun ys py sy l5 H5 e5 n5 hl5 => ⟨l5, rfl, _, hl5, fun t6 H6 e6 n6 ht6 => ⟨by decide, fun p7 H7 e7 n7 hp7 => ?_⟩⟩⟩
      · show ([Sum.inr (sigOf "Clamped")] : List Key) = [Sum.inr ("Clamped" : Str)]
        have z : sigOf "Clamped" = "Clamped" := by decide +kernel
        rw [z]
      have ey : ys = (["Clamped"] : List Str) := List.perm_singleton.mp py
      subst ey
      refine k _ H7 (Same.tr e14 (Same.tr e5 (Same.tr e6 e7))) ⟨p7, d1, t6, rfl, hp7, hd1.mono (Same.tr e4 (Same.tr e5 (Same.tr e6 e7))), ?_⟩
      rw [hw]
      exact e7 _ _ ht6
end

section
variable {P : Program} {w : World} {K : PySem.W.Frag} {mg : Str → Option Value} {base : Heap}
theorem ok_check_between (T : Tx K mg) : Okd P w K mg base 2 ("check_between", none) ["thing", "least", "most", "part"] sp_check_between := by
  obtain ⟨fd_is_integer, G_is_integer, b_is_integer, k_is_integer⟩ := ok_is_integer (P := P) (w := w) (base := base) T
  obtain ⟨fd, F⟩ := T.d_check_between
  refine ⟨fd, F.ok sc_check_between (fun vs H Q E h => ?_) (fun cdv A outer s H vs Q E hr h => ⟨_, PSs.nox ((pss_one (ps_if (PW.pt (pw_or (pt_not (pt_val (pe_call G_is_integer (hr.mono (by decide)) (by rfl) T.g_is_integer k_is_integer b_is_integer .nil pass0 (pa_cons (pv 0) pa_nil)))) (pw_or1 (pt_not (pt_chain op_le op_le (pv 1) (pv 0) (pv 2))))))
 (pss_one ps_never)
 pss_nil))), ?_⟩), F.bindsN (fun _ _ _ _ _ _ us hl => match us, hl with | [_, _, _, _], _ => rfl), F.kp⟩
  · obtain ⟨i, lo, hi, z, rfl, _⟩ := h
    rfl
  · obtain ⟨i, lo, hi, z, rfl, h1, h2, k⟩ := h
    walk_at "rd"
    exact iteD (fun _ => iteND (fun h => absurd h2 h) fun _ => k) fun h => absurd h1 h
theorem ok_names_of (T : Tx K mg) : Okd P w K mg base 2 ("names_of", none) ["names", "part"] sp_names_of0 := by
  obtain ⟨fd, F⟩ := T.d_names_of
  refine ⟨fd, F.ok sc_names_of (fun vs H Q E h => ?_) (fun cdv A outer s H vs Q E hr h => ⟨_, PSs.nox ((pss_cons (ps_if (PW.pt (pw_or (pt_not (pt_val (pe_callB call_isiT (by rfl) T.n_isinstance (by decide +kernel) (pa_cons (pv 0) (pa_cons (n_tup (pa_cons (pe_bltn (v := .ty "list") (by rfl) T.n_list (by decide +kernel) rfl) (pa_cons (pe_bltn (v := .ty "tuple") (by rfl) T.n_tuple (by decide +kernel) rfl) pa_nil))) pa_nil))))) (pw_or1 (pt_not (pt_val (pe_callB (cr_all rfl) (by rfl) T.n_all (by decide +kernel) (pa_cons (n_lcT (pe_lc (own := [("name", 2)]) (g := gName 2) (by rfl) sc_names_of.nd (pi_tup (pv 0)) (blkOk_by (own := [("name", 2)]) (N := ["names", "part", "name"]) (sc := defScope s_names_of) (by decide +kernel)) (fun _ _ _ _ _ => pg_name (i := 2) sc_names_of.nd rfl (Or.inl rfl)) (fun _ _ _ _ _ => pts_nil) (fun _ _ _ _ _ => (pe_and (pe_callB isi_str (by rfl) T.n_isinstance (by decide +kernel) (pa_cons (pv 2) (pa_cons (pe_bltn (v := .ty "str") (by rfl) T.n_str (by decide +kernel) rfl) pa_nil))) (pe_one (pe_inG (pv 2) (by rfl) T.g_ORDER T.t_ORDER)))))) pa_nil)))))))
 (pss_one ps_never)
 pss_nil)
 (pss_one (ps_ret (pe_callB (sorted_d rfl) (by rfl) T.n_sorted (by decide +kernel) (pa_cons (n_dcT (pe_dc (own := [("name", 2)]) (g := gName 2) (by rfl) sc_names_of.nd (pi_tup (pv 0)) (blkOk_by (own := [("name", 2)]) (N := ["names", "part", "name"]) (sc := defScope s_names_of) (by decide +kernel)) (fun _ _ _ _ _ => pg_name (i := 2) sc_names_of.nd rfl (Or.inl rfl)) (fun _ _ _ _ _ => pts_nil) (fun _ _ _ _ _ => (pv 2)) (fun _ _ _ _ _ => pe_bl))) pa_nil)))))), ?_⟩), F.bindsN (fun _ _ _ _ _ _ us hl => match us, hl with | [_, _], _ => rfl), F.kp⟩
  · obtain ⟨tp, z, rfl, _⟩ := h
    rfl
  · obtain ⟨tp, z, rfl, ht, k⟩ := h
    walk_at "rd"
    refine ⟨by decide, fun t H1 e1 n1 ht1 => ⟨_, t, _, _, [.type "list", .type "tuple"], true, rfl, ht1, .cons (.ty _) (.cons (.ty _) .nil), .base (.tup (e1 _ _ ht)), kTupLT, true, rfl, iteF ?_⟩⟩
    refine ⟨_, e1 _ _ ht, (by show 0 ≤ 100000; decide), fun _ => none, fun x hx => absurd hx (by simp), fun l H2 e2 nl hl => ?_⟩
    refine ⟨l, [], rfl, SqL.of hl, true, rfl, iteF ⟨_, e2 _ _ (e1 _ _ ht), (by show 0 ≤ 100000; decide), fun _ => none, fun x hx => absurd hx (by simp), fun d H3 e3 nd hd => ⟨d, rfl, _, hd, [], rfl, by decide, fun ys py sy => ?_⟩⟩⟩
    have ey : ys = [] := List.Perm.eq_nil py
    subst ey
    exact k.ext (Same.tr e1 (Same.tr e2 e3))
theorem ok_Context___init__ (T : Tx K mg) : ∃ fd, FnOk P w K mg base CX0 5 (He.fAd K ("Context", some "__init__")) fd ["self", "prec", "rounding", "emin", "emax", "capitals", "clamp", "traps"] (sp_ctx0 K) ∧ FunD K "__init__" "Context.__init__" (defArgs s_Context___init__) (defBody s_Context___init__) (defScope s_Context___init__) [] [("prec", V.int (28)), ("rounding", V.str "half_even"), ("emin", V.int (-999999)), ("emax", V.int (999999)), ("capitals", V.int (1)), ("clamp", V.int (0))] (He.fAd K ("Context", some "__init__")) fd := by
  obtain ⟨fd_check_between, G_check_between, b_check_between, k_check_between⟩ := ok_check_between (P := P) (w := w) (base := base) T
  obtain ⟨fd_names_of, G_names_of, b_names_of, k_names_of⟩ := ok_names_of (P := P) (w := w) (base := base) T
  obtain ⟨fd_Rules___init__, G_Rules___init__, b_Rules___init__, k_Rules___init__⟩ := ok_Rules___init__ (P := P) (w := w) (base := base) T
  obtain ⟨fd, F⟩ := T.d_Context___init__
  refine ⟨fd, F.ok sc_Context___init__ (fun vs H Q E h => ?_) (fun cdv A outer s H vs Q E hr h => ⟨_, PSs.nox ((pss_cons (ps_expr (pe_call G_check_between (hr.mono (by decide)) (by rfl) T.g_check_between k_check_between b_check_between .nil pass0 (pa_cons (pv 1) (pa_cons pe_int (pa_cons (pe_gI (by rfl) T.c_MOST) (pa_cons pe_str pa_nil))))))
 (pss_cons (ps_if (PW.pt (pw_or (pt_not (pt_val (pe_callB isi_str (by rfl) T.n_isinstance (by decide +kernel) (pa_cons (pv 2) (pa_cons (pe_bltn (v := .ty "str") (by rfl) T.n_str (by decide +kernel) rfl) pa_nil))))) (pw_or1 (pt_niG (pv 2) (by rfl) T.g_ROUNDINGS T.t_ROUNDINGS))))
 (pss_one ps_never)
 pss_nil)
 (pss_cons (ps_expr (pe_call G_check_between (hr.mono (by decide)) (by rfl) T.g_check_between k_check_between b_check_between .nil pass0 (pa_cons (pv 3) (pa_cons (pe_un un_neg (pe_gI (by rfl) T.c_MOST)) (pa_cons pe_int (pa_cons pe_str pa_nil))))))
 (pss_cons (ps_expr (pe_call G_check_between (hr.mono (by decide)) (by rfl) T.g_check_between k_check_between b_check_between .nil pass0 (pa_cons (pv 4) (pa_cons pe_int (pa_cons (pe_gI (by rfl) T.c_MOST) (pa_cons pe_str pa_nil))))))
 (pss_cons (ps_expr (pe_call G_check_between (hr.mono (by decide)) (by rfl) T.g_check_between k_check_between b_check_between .nil pass0 (pa_cons (pv 5) (pa_cons pe_int (pa_cons pe_int (pa_cons pe_str pa_nil))))))
 (pss_cons (ps_expr (pe_call G_check_between (hr.mono (by decide)) (by rfl) T.g_check_between k_check_between b_check_between .nil pass0 (pa_cons (pv 6) (pa_cons pe_int (pa_cons pe_int (pa_cons pe_str pa_nil))))))
 (pss_cons (ps_fld (pv 0) (pe_call G_names_of (hr.mono (by decide)) (by rfl) T.g_names_of k_names_of b_names_of .nil pass0 (pa_cons (pv 7) (pa_cons pe_str pa_nil))) rfl)
 (pss_cons (ps_fld (pv 0) (n_lst pa_nil) rfl)
 (pss_cons (ps_fld (pv 0) (pv 1) rfl)
 (pss_cons (ps_fld (pv 0) (pv 2) rfl)
 (pss_cons (ps_fld (pv 0) (pv 3) rfl)
 (pss_cons (ps_fld (pv 0) (pv 4) rfl)
 (pss_cons (ps_fld (pv 0) (pv 5) rfl)
 (pss_cons (ps_fld (pv 0) (pv 6) rfl)
 (pss_one (ps_fld (pv 0) (n_make T.m_Rules G_Rules___init__ (hr.mono (by decide)) (by rfl) T.g_Rules b_Rules___init__ (pa_cons (pv 1) (pa_cons (pv 2) (pa_cons (pv 3) (pa_cons (pv 4) (pa_cons (pv 6) pa_nil)))))) rfl))))))))))))))))), ?_⟩), F⟩
  · obtain ⟨H0, p, dx, r, cap, tp, rfl, _⟩ := h
    rfl
  · obtain ⟨H0, p, dx, r, cap, tp, rfl, s0, p0, hp, ht, g, k⟩ := h
    walk_at "rd"
    have hrn : inV (V.str r.rnd) ([V.str "up", V.str "down", V.str "ceiling", V.str "floor", V.str "half_up", V.str "half_down", V.str "half_even", V.str "05up"] : List V) = true := g.rn
    refine ⟨_, _, _, _, rfl, g.p1, g.p2, ite_no (by rw [hrn]; rfl) ?_⟩
    refine ⟨_, _, _, _, rfl, g.l1, g.l2, _, _, _, _, rfl, g.h1, g.h2, _, _, _, _, rfl, g.c1, g.c2, _, _, _, _, rfl, g.f1, g.f2, tp, _, rfl, ht, fun tr H1 e1 n1 htr => ?_⟩
    have ntp : tr ≠ p := fun q => by
      rw [q, hp] at n1
      cases n1
    refine ⟨_, dx, _, e1 _ _ hp, T.cl_Context, T.no_Context_trapped, by decide, by decide, fun ra H2 e2 n2 hra => ?_⟩
    have hp2 := e2 _ _ (upd_same (H := H1) (a := p))
    have htr2 : H2 tr = some (.lst []) := e2 _ _ (by rw [upd_ne ntp]; exact htr)
    have nra : ra ≠ p := fun q => by
      rw [q, upd_same] at n2
      cases n2
    refine ⟨_, dx, _, hp2, T.cl_Context, T.no_Context_raised, (show 1 < 1000 by decide), _, dx, _, upd_same, T.cl_Context, T.no_Context_prec, (show 2 < 1000 by decide), _, dx, _, upd_same, T.cl_Context, T.no_Context_rounding, (show 3 < 1000 by decide),
      _, dx, _, upd_same, T.cl_Context, T.no_Context_emin, (show 4 < 1000 by decide), _, dx, _, upd_same, T.cl_Context, T.no_Context_emax, (show 5 < 1000 by decide), _, dx, _, upd_same, T.cl_Context, T.no_Context_capitals, (show 6 < 1000 by decide),
      _, dx, _, upd_same, T.cl_Context, T.no_Context_clamp, (show 7 < 1000 by decide), ?_⟩
    refine ⟨_, ⟨r, rfl, rfl⟩, fun q dxq H3 e3 n3 hq => ?_⟩
    have nqp : q ≠ p := fun z => by
      rw [z, upd_same] at n3
      cases n3
    have hp3 := e3 _ _ (upd_same (a := p))
    refine ⟨_, dx, _, hp3, T.cl_Context, T.no_Context_rules, (show 8 < 1000 by decide), ?_⟩
    have up : ∀ a o, a ≠ p → H2 a = some o → H3 a = some o := fun a o na h => e3 _ _ (by
      rw [upd_ne na, upd_ne na, upd_ne na, upd_ne na, upd_ne na, upd_ne na, upd_ne na]
      exact h)
    refine k _ tr ra (.ref q) (fun b o hb => ?_) upd_same ?_ ?_ ⟨q, dxq, rfl, ?_⟩
    · have nb : b ≠ p := fun z => by
        rw [z, p0] at hb
        cases hb
      rw [upd_ne nb]
      exact up b o nb (e2 _ _ (by rw [upd_ne nb]; exact e1 _ _ (s0 _ _ hb)))
    · rw [upd_ne ntp]
      exact up tr _ ntp htr2
    · rw [upd_ne nra]
      exact up ra _ nra hra
    · rw [upd_ne nqp]
      exact hq
end

section
variable {P : Program} {w : World} {K : PySem.W.Frag} {mg : Str → Option Value} {base : Heap}
theorem ok__law_well (T : Tx K mg) : Okd P w K mg base 1 ("_law_well", none) ["_law_cell"] (sp_well 900000000) := by
  obtain ⟨fd, F⟩ := T.d__law_well
  refine ⟨fd, F.ok sc__law_well (fun vs H Q E h => ?_) (fun cdv A outer s H vs Q E hr h => ⟨_, PSs.nox ((pss_one (ps_ret (n_lst (pa_cons (pe_op op_mul (pv 0) (pe_callTy int_1 (by rfl) T.n_int (by decide +kernel) (pa_cons (pe_cmpR op_ge (pv 0) (pe_op op_pow pe_int pe_int) (nomark _)) pa_nil))) (pa_cons (pe_op op_mod (pe_callTy int_1 (by rfl) T.n_int (by decide +kernel) (pa_cons (pv 0) pa_nil)) pe_int) (pa_cons pe_int pa_nil))))))), ?_⟩), F.bindsN (fun _ _ _ _ _ _ us hl => match us, hl with | [_], _ => rfl), F.kp⟩
  · obtain ⟨i, rfl, _⟩ := h
    rfl
  · obtain ⟨i, rfl, k⟩ := h
    walk_at "rd"
    have e18 : (10 : Int) ^ Int.toNat 18 = 1000000000000000000 := by decide
    rw [e18]
    have ht : (1000000000000000000 ≤ i ∧ toI (V.bl (decide (1000000000000000000 ≤ i))) = 1) ∨ toI (V.bl (decide (1000000000000000000 ≤ i))) = 0 := by
      by_cases h : 1000000000000000000 ≤ i
      · exact .inl ⟨h, by rw [decide_eq_true h]; rfl⟩
      · exact .inr (by rw [decide_eq_false h]; rfl)
    generalize toI (V.bl (decide (1000000000000000000 ≤ i))) = t at ht
    refine ⟨⟨by decide, by decide, by decide⟩, .inr ⟨by omega, by omega⟩, by decide, by decide, fun p H' e n hp => k p H' e n ⟨_, _, _, hp, ?_, Int.emod_nonneg _ (by decide), Int.emod_lt_of_pos _ (by decide), by decide, by decide, by decide⟩⟩
    rcases ht with ⟨h, rfl⟩ | rfl <;> omega
theorem ok__law_draw (T : Tx K mg) : Okd P w K mg base 1 ("_law_draw", none) ["_law_well_here", "_law_many"] sp_draw := by
  obtain ⟨fd, F⟩ := T.d__law_draw
  refine ⟨fd, F.ok sc__law_draw (fun vs H Q E h => ?_) (fun cdv A outer s H vs Q E hr h => ⟨_, PSs.nox ((pss_cons (ps_if (pt_cmpR op_gt (pe_ix ix_l (pv 0) pe_int (fun _ _ => rfl)) pe_int (nomark _))
 (pss_cons (ps_set (i := 2) sc__law_draw.nd rfl (Or.inl rfl) (pe_op op_mod (pe_callTy int_1 (by rfl) T.n_int (by decide +kernel) (pa_cons (pe_ix ix_l (pv 0) pe_int (fun _ _ => rfl)) pa_nil)) (pv 1)))
 (pss_cons (ps_asg (pe_op op_fdivW (pe_ix ix_l (pv 0) pe_int (fun _ _ => rfl)) (pv 1)) (pg_sub (pv 0) pe_int set_list))
 (pss_one (ps_ret (pv 2)))))
 pss_nil)
 (pss_cons (ps_asg (pe_op op_add (pe_ix ix_l (pv 0) pe_int (fun _ _ => rfl)) pe_int) (pg_sub (pv 0) pe_int set_list))
 (pss_cons (ps_set (i := 3) sc__law_draw.nd rfl (Or.inl rfl) (pe_op op_mod (pe_callTy int_1 (by rfl) T.n_int (by decide +kernel) (pa_cons (pe_op op_pow (pe_op op_add (pe_op op_add (pe_ix ix_l (pv 0) pe_int (fun _ _ => rfl)) (pe_op op_mul pe_int (pe_ix ix_l (pv 0) pe_int (fun _ _ => rfl)))) pe_int) pe_int) pa_nil)) pe_int))
 (pss_cons (ps_set (i := 4) sc__law_draw.nd rfl (Or.inl rfl) (pe_op op_mul (pe_op op_add (pv 3) (pe_op op_mul pe_int (pe_ix ix_l (pv 0) pe_int (fun _ _ => rfl)))) (pe_op op_add (pe_op op_fdivW (pv 3) pe_int) pe_int)))
 (pss_cons (ps_set (i := 3) sc__law_draw.nd rfl (Or.inl rfl) (pe_op op_mod (pe_callTy int_1 (by rfl) T.n_int (by decide +kernel) (pa_cons (pv 4) pa_nil)) pe_int))
 (pss_cons (ps_set (i := 4) sc__law_draw.nd rfl (Or.inl rfl) (pe_op op_mod (pe_callTy int_1 (by rfl) T.n_int (by decide +kernel) (pa_cons (pe_op op_mul (pv 3) (pe_op op_add (pe_op op_fdivW (pv 3) pe_int) pe_int)) pa_nil)) pe_int))
 (pss_one (ps_ret (pe_op op_mod (pe_callTy int_1 (by rfl) T.n_int (by decide +kernel) (pa_cons (pe_op op_fdivW (pv 4) pe_int) pa_nil)) (pv 1))))))))))), ?_⟩), F.bindsN (fun _ _ _ _ _ _ us hl => match us, hl with | [_, _], _ => rfl), F.kp⟩
  · obtain ⟨W, m, n, rfl, _⟩ := h
    rfl
  · obtain ⟨W, m, n, rfl, m1, m2, ⟨a, b, c, hw, ha, hb, hb2, hc, hn, hcn⟩, n1, k⟩ := h
    walk_at "rd"
    walk_at "wl"
    refine iteD (fun h => ⟨by omega, divW_small m1 m2, k _ _ SameX.upd ⟨_, _, _, upd_same, Int.ediv_nonneg ha (by omega), hb, hb2, hc, by omega, by omega⟩ (Int.emod_nonneg _ (by omega)) (Int.emod_lt_of_pos _ (by omega))⟩) (fun h => ?_)
    refine ⟨.inl ⟨by decide, by decide⟩, by decide, by decide, by omega, by decide, .inl ⟨by decide, by decide⟩, ?_⟩
    have x1 := Int.emod_nonneg ((b + 60013 * (c + 1) + 101) ^ Int.toNat 3) (show (2147483629 : Int) ≠ 0 by decide)
    have x2 := Int.emod_lt_of_pos ((b + 60013 * (c + 1) + 101) ^ Int.toNat 3) (show (0 : Int) < 2147483629 by decide)
    generalize (b + 60013 * (c + 1) + 101) ^ Int.toNat 3 % 2147483629 = x at x1 x2 ⊢
    refine ⟨⟨by decide, by decide⟩, .inl ⟨by omega, by omega⟩, by decide, ?_⟩
    have y1 := Int.emod_nonneg ((x + 31 * (c + 1)) * (x / 1033 + 50021)) (show (2147483579 : Int) ≠ 0 by decide)
    have y2 := Int.emod_lt_of_pos ((x + 31 * (c + 1)) * (x / 1033 + 50021)) (show (0 : Int) < 2147483579 by decide)
    generalize (x + 31 * (c + 1)) * (x / 1033 + 50021) % 2147483579 = y at y1 y2 ⊢
    refine ⟨⟨by decide, by decide⟩, .inl ⟨by omega, by omega⟩, by decide, ⟨by decide, by decide⟩, by omega, ?_⟩
    exact k _ _ SameX.upd ⟨_, _, _, upd_same, ha, hb, hb2, by omega, by omega, by omega⟩ (Int.emod_nonneg _ (by omega)) (Int.emod_lt_of_pos _ (by omega))
theorem ok__law_one (T : Tx K mg) : Okd P w K mg base 2 ("_law_one", none) ["_law_well_here", "_law_some"] sp_one := by
  obtain ⟨fd__law_draw, G__law_draw, b__law_draw, k__law_draw⟩ := ok__law_draw (P := P) (w := w) (base := base) T
  obtain ⟨fd, F⟩ := T.d__law_one
  refine ⟨fd, F.ok sc__law_one (fun vs H Q E h => ?_) (fun cdv A outer s H vs Q E hr h => ⟨_, PSs.nox ((pss_one (ps_ret (pe_ix ix_l (pv 1) (pe_call G__law_draw (hr.mono (by decide)) (by rfl) T.g__law_draw k__law_draw b__law_draw .nil pass0 (pa_cons (pv 0) (pa_cons (pe_callB len_l (by rfl) T.n_len (by decide +kernel) (pa_cons (pv 1) pa_nil)) pa_nil))) (fun _ _ => rfl))))), ?_⟩), F.bindsN (fun _ _ _ _ _ _ us hl => match us, hl with | [_, _], _ => rfl), F.kp⟩
  · obtain ⟨W, L, xs, n, rfl, _⟩ := h
    rfl
  · obtain ⟨W, L, xs, n, rfl, hL, nLW, x0, x1, hw, n1, k⟩ := h
    walk_at "rd"
    refine ⟨xs, hL, W, _, n, rfl, by omega, by omega, hw, n1, fun v H' e' hw' v0 v1 => ?_⟩
    have hv : v.toNat < xs.length := by omega
    refine ⟨xs, v, rfl, e' _ _ nLW hL, xs[v.toNat], ?_, k _ H' e' hw' (List.getElem_mem hv)⟩
    unfold atI ixN
    rw [if_pos v0, if_pos v1]
    exact List.getElem?_eq_getElem hv
end

section
variable {P : Program} {w : World} {K : PySem.W.Frag} {mg : Str → Option Value} {base : Heap}
theorem ok__law_ways (T : Tx K mg) : Okd P w K mg base 1 ("_law_ways", none) [] sp_law_ways := by
  obtain ⟨fd, F⟩ := T.d__law_ways
  refine ⟨fd, F.ok sc__law_ways (fun vs H Q E h => ?_) (fun cdv A outer s H vs Q E hr h => ⟨_, PSs.nox ((pss_one (ps_ret (n_lst (pa_cons pe_str (pa_cons pe_str (pa_cons pe_str (pa_cons pe_str (pa_cons pe_str (pa_cons pe_str (pa_cons pe_str (pa_cons pe_str pa_nil)))))))))))), ?_⟩), F.bindsN (fun _ _ _ _ _ _ us hl => match us, hl with | [], _ => rfl), F.kp⟩
  · obtain ⟨rfl, _⟩ := h
    rfl
  · obtain ⟨rfl, k⟩ := h
    walk_at "rd"
    exact ⟨by decide, k⟩
theorem ok__law_parts (T : Tx K mg) : Okd P w K mg base 1 ("_law_parts", none) ["_law_a"] (sp_law_parts K) := by
  obtain ⟨fd, F⟩ := T.d__law_parts
  refine ⟨fd, F.ok sc__law_parts (fun vs H Q E h => ?_) (fun cdv A outer s H vs Q E hr h => ⟨_, PSs.nox ((pss_one (ps_ret (n_tup (pa_cons (pe_fld (pv 0) rfl) (pa_cons (pe_fld (pv 0) rfl) (pa_cons (pe_fld (pv 0) rfl) pa_nil))))))), ?_⟩), F.bindsN (fun _ _ _ _ _ _ us hl => match us, hl with | [_], _ => rfl), F.kp⟩
  · obtain ⟨v, s, c, e, rfl, _⟩ := h
    rfl
  · obtain ⟨v, s, c, e, rfl, ⟨⟨p, dx, rfl, hp⟩, g⟩, k⟩ := h
    walk_at "rd"
    walk_at "ff"
    exact ⟨by decide, k⟩
theorem ok__law_rules (T : Tx K mg) : Okd P w K mg base 3 ("_law_rules", none) ["_law_well_here", "_law_most"] sp_law_rules := by
  obtain ⟨fd__law_one, G__law_one, b__law_one, k__law_one⟩ := ok__law_one (P := P) (w := w) (base := base) T
  obtain ⟨fd__law_ways, G__law_ways, b__law_ways, k__law_ways⟩ := ok__law_ways (P := P) (w := w) (base := base) T
  obtain ⟨fd__law_draw, G__law_draw, b__law_draw, k__law_draw⟩ := ok__law_draw (P := P) (w := w) (base := base) T
  obtain ⟨fd, F⟩ := T.d__law_rules
  refine ⟨fd, F.ok sc__law_rules (fun vs H Q E h => ?_) (fun cdv A outer s H vs Q E hr h => ⟨_, PSs.nox ((pss_cons (ps_par (i := 2) (j := 3) (by rfl) sc__law_rules.nd rfl rfl (by decide) rfl rfl (pa_cons (pe_op op_add pe_int (pe_call G__law_draw (hr.mono (by decide)) (by rfl) T.g__law_draw k__law_draw b__law_draw .nil pass0 (pa_cons (pv 0) (pa_cons (pv 1) pa_nil)))) (pa_cons (pe_call G__law_one (hr.mono (by decide)) (by rfl) T.g__law_one k__law_one b__law_one .nil pass0 (pa_cons (pv 0) (pa_cons (pe_call0 G__law_ways (hr.mono (by decide)) (by rfl) T.g__law_ways k__law_ways b__law_ways .nil pass0) pa_nil))) pa_nil)) (by rfl))
 (pss_cons (ps_par (i := 4) (j := 5) (by rfl) sc__law_rules.nd rfl rfl (by decide) rfl rfl (pa_cons (pe_op op_sub pe_int (pe_call G__law_draw (hr.mono (by decide)) (by rfl) T.g__law_draw k__law_draw b__law_draw .nil pass0 (pa_cons (pv 0) (pa_cons pe_int pa_nil)))) (pa_cons (pe_call G__law_draw (hr.mono (by decide)) (by rfl) T.g__law_draw k__law_draw b__law_draw .nil pass0 (pa_cons (pv 0) (pa_cons pe_int pa_nil))) pa_nil)) (by rfl))
 (pss_one (ps_ret (n_tup (pa_cons (pv 2) (pa_cons (pv 3) (pa_cons (pv 4) (pa_cons (pv 5) (pa_cons (pe_call G__law_draw (hr.mono (by decide)) (by rfl) T.g__law_draw k__law_draw b__law_draw .nil pass0 (pa_cons (pv 0) (pa_cons pe_int pa_nil))) pa_nil))))))))))), ?_⟩), F.bindsN (fun _ _ _ _ _ _ us hl => match us, hl with | [_, _], _ => rfl), F.kp⟩
  · obtain ⟨W, m, n, rfl, _⟩ := h
    rfl
  · obtain ⟨W, m, n, rfl, m1, m2, hw, n5, k⟩ := h
    walk_at "rd"
    refine ⟨W, m, n, rfl, by omega, by omega, hw, by omega, fun x H1 e1 w1 x0 x1 => ⟨x, rfl, rfl, fun L H2 e2 nL hL => ?_⟩⟩
    have hWL : L ≠ W := by
      obtain ⟨_, _, _, hh, _⟩ := w1
      intro q
      rw [q, hh] at nL
      cases nL
    refine ⟨W, L, rounds, n - 1, rfl, hL, hWL, by decide, by decide, w1.mono e2, by omega, fun rn H3 e3 w3 hrn => ?_⟩
    refine ⟨_, _, ⟨rfl, rfl⟩, W, 10, n - 1 - 1, rfl, by decide, by decide, w3, by omega, fun lo H4 e4 w4 lo0 lo1 => ⟨lo, rfl, ?_⟩⟩
    refine ⟨W, 10, _, rfl, by decide, by decide, w4, by omega, fun hi H5 e5 w5 hi0 hi1 => ⟨_, _, ⟨rfl, rfl⟩, ?_⟩⟩
    refine ⟨W, 2, _, rfl, by decide, by decide, w5, by omega, fun cl H6 e6 w6 cl0 cl1 => ⟨by decide, fun t H7 e7 nt ht => ?_⟩⟩
    have htW : t ≠ W := by
      obtain ⟨_, _, _, hh, _⟩ := w6
      intro q
      rw [q, hh] at nt
      cases nt
    have hst : ∃ z, rn = V.str z := by
      have h8 : rn ∈ ([V.str "up", V.str "down", V.str "ceiling", V.str "floor", V.str "half_up", V.str "half_down", V.str "half_even", V.str "05up"] : List V) := hrn
      simp only [List.mem_cons, List.not_mem_nil, or_false] at h8
      rcases h8 with h | h | h | h | h | h | h | h <;> exact ⟨_, h⟩
    obtain ⟨z, rfl⟩ := hst
    refine k t ⟨1 + x, z, 0 - lo, hi, cl⟩ H7 (e1.tr ((SameX.of e2).tr (e3.tr (e4.tr (e5.tr (e6.tr (SameX.of e7))))))) ((w6.mono e7).less (by omega) (by omega)) ⟨by show 1 ≤ 1 + x; omega, by show 1 + x ≤ m; omega, hrn, by show -9 ≤ 0 - lo; omega, by show 0 - lo ≤ 0; omega, hi0, by show hi ≤ 9; omega, cl0, by show cl ≤ 1; omega⟩ ht htW
theorem ok__law_zero_right (T : Tx K mg) : Okd P w K mg base 3 ("_law_zero_right", none) ["_law_rules_here", "_law_sign", "_law_place", "_law_told"] (sp_law_zero_right K) := by
  obtain ⟨fd__law_parts, G__law_parts, b__law_parts, k__law_parts⟩ := ok__law_parts (P := P) (w := w) (base := base) T
  obtain ⟨fd, F⟩ := T.d__law_zero_right
  refine ⟨fd, F.ok sc__law_zero_right (fun vs H Q E h => ?_) (fun cdv A outer s H vs Q E hr h => ⟨_, PSs.nox ((pss_cons (ps_set (i := 4) sc__law_zero_right.nd rfl (Or.inl rfl) (pe_op op_add (pe_op op_sub (pe_ix ix_t (pv 0) pe_int (fun _ _ => rfl)) (pe_ix ix_t (pv 0) pe_int (fun _ _ => rfl))) pe_int))
 (pss_cons (ps_set (i := 5) sc__law_zero_right.nd rfl (Or.inl rfl) (pe_ifExp (pt_cmpR op_eq (pe_ix ix_t (pv 0) pe_int (fun _ _ => rfl)) pe_int (nomark _)) (pe_op op_add (pe_op op_sub (pe_ix ix_t (pv 0) pe_int (fun _ _ => rfl)) (pe_ix ix_t (pv 0) pe_int (fun _ _ => rfl))) pe_int) (pe_ix ix_t (pv 0) pe_int (fun _ _ => rfl))))
 (pss_cons (ps_set (i := 6) sc__law_zero_right.nd rfl (Or.inl rfl) (pv 2))
 (pss_cons (ps_if (pt_cmpR op_lt (pv 2) (pv 4) (nomark _))
 (pss_one (ps_set (i := 6) sc__law_zero_right.nd rfl (Or.inl rfl) (pv 4)))
 (pss_one (ps_if (pt_cmpR op_gt (pv 2) (pv 5) (nomark _))
 (pss_one (ps_set (i := 6) sc__law_zero_right.nd rfl (Or.inl rfl) (pv 5)))
 pss_nil)))
 (pss_one (ps_ret (pe_and (pe_cmpR (op_eqD hr.units) (pe_call G__law_parts (hr.mono (by decide)) (by rfl) T.g__law_parts k__law_parts b__law_parts .nil pass0 (pa_cons (pe_ix ix_t (pv 3) pe_int (fun _ _ => rfl)) pa_nil)) (n_tup (pa_cons (pv 1) (pa_cons pe_int (pa_cons (pv 6) pa_nil)))) (nomark _)) (pe_one (pe_cmpR (op_eqD hr.units) (pe_ix ix_t (pv 3) pe_int (fun _ _ => rfl)) (pe_ifExp (pt_cmpR op_eq (pv 6) (pv 2) (nomark _)) (n_tup pa_nil) (n_tup (pa_cons pe_str pa_nil))) (nomark _))))))))))), ?_⟩), F.bindsN (fun _ _ _ _ _ _ us hl => match us, hl with | [_, _, _, _], _ => rfl), F.kp⟩
  · obtain ⟨p, r, s, n, v, rfl, _⟩ := h
    rfl
  · obtain ⟨p, r, s, n, v, rfl, hp, ⟨t, d, qw, rfl, hq, hd, hws⟩, hz, k⟩ := h
    unfold tupR at hp
    have word : ∀ H1, Same H H1 → ∀ g : Int, g = zExp r n → if decide (g = n) = true then 0 ≤ 100000 ∧ newO (HO.tup []) H1 fun y H2 => rEqD K (.ref qw) y H2 Q else 1 ≤ 100000 ∧ newO (HO.tup [V.str "Clamped"]) H1 fun y H2 => rEqD K (.ref qw) y H2 Q := by
      intro H1 e1 g hg
      refine iteD (fun h => ⟨by decide, fun y H2 e2 ny hy => ?_⟩) (fun h => ⟨by decide, fun y H2 e2 ny hy => ?_⟩)
      · have z : zWords r n = [] := by
          unfold zWords
          rw [← hg]
          exact if_pos h
        rw [z] at hws
        exact eqD_same (d := .tuple []) (.tup (SqT.of (e2 _ _ (e1 _ _ hws))) .nil) (.tup (SqT.of hy) .nil) rfl (k _ (Same.tr e1 e2))
      · have z : zWords r n = (["Clamped"] : List Str) := by
          unfold zWords
          rw [← hg]
          exact if_neg h
        rw [z] at hws
        exact eqD_same (d := .tuple [.str "Clamped"]) (.tup (SqT.of (e2 _ _ (e1 _ _ hws))) (.cons (.str _) .nil)) (.tup (SqT.of hy) (.cons (.str _) .nil)) (by decide +kernel) (k _ (Same.tr e1 e2))
    have tail : ∀ (g : Int) (R : Hp → Prop), g = zExp r n → (∀ H1, Same H H1 → R H1) → sp_law_parts K [d] H (fun x H1 => 3 ≤ 100000 ∧ newO (HO.tup [V.int s, V.int 0, V.int g]) H1 fun y H2 => rEqD K x y H2 fun x H1 => ∃ c, x = V.bl c ∧ if c = true then R H1 else Q (V.bl false) H1) E0 := by
      intro g R hg hR
      refine ⟨d, s, 0, _, rfl, hd, fun t1 H1 e1 n1 h1 => ⟨by decide, fun t2 H2 e2 n2 h2 => ?_⟩⟩
      rw [← hg] at h1
      exact eqD_same (d := .tuple [.int s, .int 0, .int g]) (.tup (SqT.of (e2 _ _ h1)) (.cons (.int _) (.cons (.int _) (.cons (.int _) .nil)))) (.tup (SqT.of h2) (.cons (.int _) (.cons (.int _) (.cons (.int _) .nil)))) rfl ⟨true, rfl, iteT (hR _ (Same.tr e1 e2))⟩
    have e1x : zExp r n = min (max n (r.emin - r.prec + 1)) (zTop r) := rfl
    have hz' : r.emin - r.prec + 1 ≤ zTop r := hz
    walk_at "rd"
    walk_at "ff"
    have last : n = zExp r n → ∀ H1, Same H H1 → 0 ≤ 100000 ∧ newO (HO.tup []) H1 fun y H2 => rEqD K (V.ref qw) y H2 Q := fun hg H1 e1 => by
      have w3 := word H1 e1 n hg
      rw [if_pos (decide_eq_true rfl)] at w3
      exact w3
    refine iteD (fun hc => ?_) (fun hc => ?_)
    · have ht : zTop r = r.emax - r.prec + 1 := if_pos hc
      rw [ht] at e1x hz'
      refine iteD (fun h1 => ?_) (fun h1 => iteD (fun h2 => ?_) (fun h2 => ?_))
      · have hg : r.emin - r.prec + 1 = zExp r n := by omega
        exact tail _ _ hg fun H1 e1 => ⟨_, e1 _ _ hq, _, rfl, word H1 e1 _ hg⟩
      · have hg : r.emax - r.prec + 1 = zExp r n := by omega
        exact tail _ _ hg fun H1 e1 => ⟨_, e1 _ _ hq, _, rfl, word H1 e1 _ hg⟩
      · have hg : n = zExp r n := by omega
        exact tail _ _ hg fun H1 e1 => ⟨_, e1 _ _ hq, _, rfl, last hg H1 e1⟩
    · have ht : zTop r = r.emax := if_neg hc
      rw [ht] at e1x hz'
      refine iteD (fun h1 => ?_) (fun h1 => iteD (fun h2 => ?_) (fun h2 => ?_))
      · have hg : r.emin - r.prec + 1 = zExp r n := by omega
        exact tail _ _ hg fun H1 e1 => ⟨_, e1 _ _ hq, _, rfl, word H1 e1 _ hg⟩
      · have hg : r.emax = zExp r n := by omega
        exact tail _ _ hg fun H1 e1 => ⟨_, e1 _ _ hq, _, rfl, word H1 e1 _ hg⟩
      · have hg : n = zExp r n := by omega
        exact tail _ _ hg fun H1 e1 => ⟨_, e1 _ _ hq, _, rfl, last hg H1 e1⟩
end

section
variable {P : Program} {w : World} {K : PySem.W.Frag} {mg : Str → Option Value} {base : Heap}
theorem ok__law_context (T : Tx K mg) : Okd P w K mg base 8 ("_law_context", none) ["_law_rules_here"] (sp_law_context K) := by
  obtain ⟨fd_Context___init__, G_Context___init__, F_Context___init__⟩ := ok_Context___init__ (P := P) (w := w) (base := base) T
  obtain ⟨mv_kb0, kb0⟩ := F_Context___init__.kbinds0 (ps := ["self", "prec", "rounding", "emin", "emax", "capitals", "clamp", "traps"]) 1 ["prec", "rounding", "emin", "emax", "clamp", "traps"] [("capitals", V.int (1))] (fun us mv ws => us ++ ((ws.drop 0).take 4 ++ ((mv.drop 0).take 1 ++ ((ws.drop 4).take 2 ++ ([] : List _))))) (List.cons_ne_nil _ _) (by decide +kernel) (fun r1 r2 r3 => r1.append (((r3.drop 0).take 4).append (((r2.drop 0).take 1).append (((r3.drop 4).take 2).append .nil)))) (fun D doc pm an cdv ct us mv ws l1 l2 l3 => match us, mv, ws, l1, l2, l3 with | [_], [_], [_, _, _, _, _, _], _, _, _ => ⟨_, _, _, _, _, _, rfl, rfl, (by show _ = pure _; kernel_rfl)⟩)
  obtain ⟨fd, F⟩ := T.d__law_context
  refine ⟨fd, F.ok sc__law_context (fun vs H Q E h => ?_) (fun cdv A outer s H vs Q E hr h => ⟨_, PSs.nox ((pss_cons (ps_asg (pv 0) (pg_tup (by rfl) (pgs_cons (pg_name (i := 1) sc__law_context.nd rfl (Or.inl rfl)) (pgs_cons (pg_name (i := 2) sc__law_context.nd rfl (Or.inl rfl)) (pgs_cons (pg_name (i := 3) sc__law_context.nd rfl (Or.inl rfl)) (pgs_cons (pg_name (i := 4) sc__law_context.nd rfl (Or.inl rfl)) (pgs_cons (pg_name (i := 5) sc__law_context.nd rfl (Or.inl rfl)) pgs_nil)))))))
 (pss_one (ps_ret (pe_makeK0 T.m_Context G_Context___init__ (hr.mono (by decide)) (by rfl) T.g_Context kb0 pass0 (pk_cons (pv 1) (pk_cons (pv 2) (pk_cons (pv 3) (pk_cons (pv 4) (pk_cons (pv 5) (pk_cons (n_tup pa_nil) pk_nil))))))))))), ?_⟩), F.bindsN (fun _ _ _ _ _ _ us hl => match us, hl with | [_], _ => rfl), F.kp⟩
  · obtain ⟨p, r, rfl, _⟩ := h
    rfl
  · obtain ⟨p, r, rfl, hp, g, k⟩ := h
    unfold tupR at hp
    walk_at "rd"
    refine ⟨_, SqT.of hp, rfl, _, _, rfl, _, _, rfl, _, _, rfl, _, _, rfl, _, _, rfl, rfl, by decide, fun t H1 e1 nt ht x dx nx ndx nxd => ?_⟩
    have s1 : Same H1 (upd (upd H1 dx (.own x)) x (.ins (He.ga K "Context") dx [])) := fun b o e => by
      rw [upd_ne (ne_of_none e nx), upd_ne (ne_of_none e ndx)]
      exact e
    have hrn : inV (.str r.rnd) rounds = true := by
      have h8 : V.str r.rnd ∈ ([V.str "up", V.str "down", V.str "ceiling", V.str "floor", V.str "half_up", V.str "half_down", V.str "half_even", V.str "05up"] : List V) := g.rn
      simp only [List.mem_cons, List.not_mem_nil, or_false] at h8
      rcases h8 with h | h | h | h | h | h | h | h <;> (rw [h]; decide +kernel)
    have p2 := g.p2
    have l1 := g.l1
    have h2 := g.h2
    exact ⟨H1, x, dx, r, 1, t, rfl, s1, nx, upd_same, s1 _ _ ht, ⟨g.p1, by omega, hrn, by omega, g.l2, g.h1, by omega, by decide, by decide, g.f1, g.f2⟩, fun H' tr ra rv s' hx htr hra hru => ⟨rfl, k _ H' (Same.tr e1 s') ⟨x, dx, tr, ra, 1, rv, rfl, hx, hru⟩⟩⟩
end

theorem SmallR.top {r : Ru} {m : Int} (g : SmallR r m) : r.etiny ≤ zTop r := by
  have := g.p1
  have := g.l2
  have := g.h1
  unfold zTop Ru.etiny Ru.etop
  split <;> omega
theorem CtxAt.monoX {K : PySem.W.Frag} {H H' : Hp} {v : V} {r : Ru} {W : Addr} {ys : List V} (h : CtxAt K H v r) (hw : H W = some (.lst ys)) (x : SameX W H H') : CtxAt K H' v r := by
  obtain ⟨p, dx, tr, ra, cap, rv, h1, h2, q, dq, h3, h4⟩ := h
  have e1 : p ≠ W := fun e => by rw [e, hw] at h2; cases h2
  have e2 : q ≠ W := fun e => by rw [e, hw] at h4; cases h4
  exact ⟨p, dx, tr, ra, cap, rv, h1, x _ _ e1 h2, q, dq, h3, x _ _ e2 h4⟩
theorem SameX.tup {H H' : Hp} {W p : Addr} {xs ys : List V} (x : SameX W H H') (hw : H W = some (.lst ys)) (h : H p = some (.tup xs)) : H' p = some (.tup xs) := 
  x _ _ (fun e => by rw [e, hw] at h; cases h) h
theorem IsWell.lst {H : Hp} {W : Addr} {n : Int} (w : IsWell H W n) : ∃ ys, H W = some (.lst ys) := by
  obtain ⟨a, b, c, hw, _⟩ := w
  exact ⟨_, hw⟩
theorem IsWell.upd {H : Hp} {W D : Addr} {n : Int} {o : HO} (w : IsWell H W n) (h : W ≠ D) : IsWell (upd H D o) W n := by
  obtain ⟨a, b, c, hw, h2⟩ := w
  exact ⟨a, b, c, by rw [upd_ne h]; exact hw, h2⟩
/-- what the turns of a law on contexts keep: the well, the rules, the context, the list of cells -/
structure Kp (K : PySem.W.Frag) (W p : Addr) (r : Ru) (cv : V) (L : Addr) (xs : List V) (n : Int) (H : Hp) : Prop where
  w : IsWell H W n
  p : H p = some (.tup (tupR r))
  c : CtxAt K H cv r
  l : H L = some (.lst xs)
  lw : L ≠ W
section
variable {K : PySem.W.Frag} {W p : Addr} {r : Ru} {cv : V} {L : Addr} {xs : List V} {n m : Int} {H H' : Hp}
theorem Kp.same (h : Kp K W p r cv L xs n H) (e : Same H H') : Kp K W p r cv L xs n H' := ⟨h.w.mono e, e _ _ h.p, h.c.mono e, e _ _ h.l, h.lw⟩
theorem Kp.less (h : Kp K W p r cv L xs n H) (h0 : 0 ≤ m) (e : m ≤ n) : Kp K W p r cv L xs m H := ⟨h.w.less h0 e, h.p, h.c, h.l, h.lw⟩
theorem Kp.drawn (h : Kp K W p r cv L xs n H) (e : SameX W H H') (w : IsWell H' W m) : Kp K W p r cv L xs m H' := by
  obtain ⟨ys, hw⟩ := h.w.lst
  exact ⟨w, e.tup hw h.p, h.c.monoX hw e, e _ _ h.lw h.l, h.lw⟩
theorem Kp.turn {m s t es : Int} {d : V} {z : Str} {f : Int → Int} {Q : VK} {E E' : XK} (q : Kp K W p r cv L xs n H) (g : SmallR r m) (hd : DecG K H d s 0 (.int t)) (o : Op1 z f) (he : es = zSign r (f s)) (hQ : ∀ H', Same H H' → Q (.bl true) H') :
    ∃ a, cv = .ref a ∧ ∃ x y, H a = some (.ins (He.ga K "Context") x y) ∧ List.lookup ("told" : Str) y = none ∧ 1 ≤ 100000 ∧ newO (.tup [d]) H fun x H1 => sp_told K [cv, .str z, x] H1 (fun x H1 => sp_law_zero_right K [.ref p, .int es, .int t, x] H1 Q E) E' := by
  obtain ⟨pc, dx, tr, ra, cap, rv, h1, h2, h3⟩ := q.c
  refine ⟨pc, h1, _, _, h2, lk_told .., by decide, fun tp H1 e1 n1 ht => ⟨_, _, _, _, _, _, _, _, rfl, q.c.mono e1, ht, o, hd.mono e1, fun v H2 e2 ho => ⟨_, _, _, _, _, rfl, e2 _ _ (e1 _ _ q.p), ?_, g.top, fun H3 e3 => hQ _ (Same.tr e1 (Same.tr e2 e3))⟩⟩⟩
  rw [he]
  exact ho
theorem Kp.put {D : Addr} {ys : List V} {o : HO} (h : Kp K W p r cv L xs n H) (hd : H D = some (.lst ys)) (n1 : W ≠ D) (n2 : L ≠ D) : Kp K W p r cv L xs n (upd H D o) :=
  ⟨h.w.upd n1, SameX.upd.tup hd h.p, h.c.monoX hd SameX.upd, by rw [upd_ne n2]; exact h.l, h.lw⟩
end
section
variable {P : Program} {w : World} {K : PySem.W.Frag} {mg : Str → Option Value} {base : Heap}
theorem ok_law (T : Tx K mg) {fd : FuncData} (F : FunD K "law" "law" (defArgs s_law) (defBody s_law) (defScope s_law) [] [] (He.fAd K ("law", none)) fd) : FnOk P w K mg base CX0 18 (He.fAd K ("law", none)) fd ["_law_script"] (sp_law K) := by
  obtain ⟨fd__law_well, G__law_well, b__law_well, k__law_well⟩ := ok__law_well (P := P) (w := w) (base := base) T
  obtain ⟨fd__law_rules, G__law_rules, b__law_rules, k__law_rules⟩ := ok__law_rules (P := P) (w := w) (base := base) T
  obtain ⟨fd__law_context, G__law_context, b__law_context, k__law_context⟩ := ok__law_context (P := P) (w := w) (base := base) T
  obtain ⟨fd__law_draw, G__law_draw, b__law_draw, k__law_draw⟩ := ok__law_draw (P := P) (w := w) (base := base) T
  obtain ⟨fd_Decimal___init__, G_Decimal___init__, b_Decimal___init__, k_Decimal___init__⟩ := ok_Decimal___init__ (P := P) (w := w) (base := base) T
  obtain ⟨fd__law_zero_right, G__law_zero_right, b__law_zero_right, k__law_zero_right⟩ := ok__law_zero_right (P := P) (w := w) (base := base) T
  obtain ⟨fd_Context_told, G_Context_told, b_Context_told, k_Context_told⟩ := ok_Context_told (P := P) (w := w) (base := base) T
  refine F.ok sc_law (fun vs H Q E h => ?_) (fun cdv A outer s H vs Q E hr h => ⟨_, PSs.nox ((pss_cons (n_forL (ps_for PassesOwn.never rfl (pi_list (pe_op cat_l (pe_slice sl_l (pv 0) po_none (po_some pe_int)) (n_lst (pa_cons pe_int pa_nil)))) (pg_name (i := 1) sc_law.nd rfl (Or.inl rfl))
 (pss_cons (ps_set (i := 2) sc_law.nd rfl (Or.inr rfl) (pe_call G__law_well (hr.mono (by decide)) (by rfl) T.g__law_well k__law_well b__law_well .nil pass0 (pa_cons (pv 1) pa_nil)))
 (pss_cons (ps_set (i := 3) sc_law.nd rfl (Or.inl rfl) (pe_call G__law_rules (hr.mono (by decide)) (by rfl) T.g__law_rules k__law_rules b__law_rules .nil pass0 (pa_cons (pv 2) (pa_cons pe_int pa_nil))))
 (pss_cons (ps_par (i := 4) (j := 5) (by rfl) sc_law.nd rfl rfl (by decide) rfl rfl (pa_cons (pe_call G__law_context (hr.mono (by decide)) (by rfl) T.g__law_context k__law_context b__law_context .nil pass0 (pa_cons (pv 3) pa_nil)) (pa_cons (pe_callTy int_1 (by rfl) T.n_int (by decide +kernel) (pa_cons (pe_cmpR op_eq (pe_ix ix_t (pv 3) pe_int (fun _ _ => rfl)) pe_str (nomark _)) pa_nil)) pa_nil)) (by rfl))
 (pss_cons (ps_set (i := 6) sc_law.nd rfl (Or.inr rfl) (pe_op op_sub (pe_op op_sub (pe_ix ix_t (pv 3) pe_int (fun _ _ => rfl)) (pe_ix ix_t (pv 3) pe_int (fun _ _ => rfl))) pe_int))
 (pss_cons (ps_set (i := 7) sc_law.nd rfl (Or.inr rfl) (pe_op op_add (pe_op op_add (pe_op op_sub (pe_ix ix_t (pv 3) pe_int (fun _ _ => rfl)) (pe_ix ix_t (pv 3) pe_int (fun _ _ => rfl))) (pe_ix ix_t (pv 3) pe_int (fun _ _ => rfl))) pe_int))
 (pss_cons (n_setR (ps_setLc (i := 8) (own := [("_law_k", 13)]) (g := gName 13) (by rfl) sc_law.nd rfl rfl (sw_true rfl rfl rfl (by decide +kernel)) (pi_range1 (by rfl) T.n_range (pa_cons pe_int pa_nil)) (blkOk_by (own := [("_law_k", 13)]) (N := ["_law_script", "_law_cell", "_law_well_here", "_law_rules_here", "_law_context_here", "_law_floor", "_law_begin", "_law_many", "_law_some", "_law_far", "_law_place", "_law_sign", "_law_a", "_law_k"]) (sc := defScope s_law) (by decide +kernel)) (fun _ _ _ _ _ => pg_name (i := 13) sc_law.nd rfl (Or.inl rfl)) (fun _ _ _ _ _ => pts_nil) (fun _ _ _ _ _ => (pe_op op_add (pv 6) (pe_call G__law_draw (hr.mono (by decide)) (by rfl) T.g__law_draw k__law_draw b__law_draw .nil pass0 (pa_cons (pv 2) (pa_cons (pv 7) pa_nil)))))))
 (pss_cons (ps_set (i := 9) sc_law.nd rfl (Or.inl rfl) (pe_op op_add (pe_op op_pow pe_int pe_int) (pe_call G__law_draw (hr.mono (by decide)) (by rfl) T.g__law_draw k__law_draw b__law_draw .nil pass0 (pa_cons (pv 2) (pa_cons (pe_op op_pow pe_int pe_int) pa_nil)))))
 (pss_one (n_forL (ps_for PassesOwn.never rfl (pi_list (pe_op cat_l (pv 8) (n_lst (pa_cons (pv 9) (pa_cons (pe_op op_sub pe_int (pv 9)) pa_nil))))) (pg_name (i := 10) sc_law.nd rfl (Or.inl rfl))
 (pss_cons (ps_set (i := 11) sc_law.nd rfl (Or.inl rfl) (pe_call G__law_draw (hr.mono (by decide)) (by rfl) T.g__law_draw k__law_draw b__law_draw .nil pass0 (pa_cons (pv 2) (pa_cons pe_int pa_nil))))
 (pss_cons (ps_set (i := 12) sc_law.nd rfl (Or.inl rfl) (n_make T.m_Decimal G_Decimal___init__ (hr.mono (by decide)) (by rfl) T.g_Decimal b_Decimal___init__ (pa_cons (pv 11) (pa_cons pe_int (pa_cons (pv 10) pa_nil)))))
 (pss_cons (ps_if (pt_not (pt_val (pe_call G__law_zero_right (hr.mono (by decide)) (by rfl) T.g__law_zero_right k__law_zero_right b__law_zero_right .nil pass0 (pa_cons (pv 3) (pa_cons (pe_op op_mul (pv 11) (pv 5)) (pa_cons (pv 10) (pa_cons (pe_meth (pv 4) T.cl_Context T.me_Context_told G_Context_told (hr.mono (by decide)) b_Context_told .nil pass0 (pa_cons pe_str (pa_cons (n_tup (pa_cons (pv 12) pa_nil)) pa_nil))) pa_nil)))))))
 (pss_one (ps_ret pe_bl))
 pss_nil)
 (pss_cons (ps_if (pt_not (pt_val (pe_call G__law_zero_right (hr.mono (by decide)) (by rfl) T.g__law_zero_right k__law_zero_right b__law_zero_right .nil pass0 (pa_cons (pv 3) (pa_cons (pe_op op_mul (pe_op op_sub pe_int (pv 11)) (pv 5)) (pa_cons (pv 10) (pa_cons (pe_meth (pv 4) T.cl_Context T.me_Context_told G_Context_told (hr.mono (by decide)) b_Context_told .nil pass0 (pa_cons pe_str (pa_cons (n_tup (pa_cons (pv 12) pa_nil)) pa_nil))) pa_nil)))))))
 (pss_one (ps_ret pe_bl))
 pss_nil)
 (pss_one (ps_if (pt_not (pt_val (pe_call G__law_zero_right (hr.mono (by decide)) (by rfl) T.g__law_zero_right k__law_zero_right b__law_zero_right .nil pass0 (pa_cons (pv 3) (pa_cons pe_int (pa_cons (pv 10) (pa_cons (pe_meth (pv 4) T.cl_Context T.me_Context_told G_Context_told (hr.mono (by decide)) b_Context_told .nil pass0 (pa_cons pe_str (pa_cons (n_tup (pa_cons (pv 12) pa_nil)) pa_nil))) pa_nil)))))))
 (pss_one (ps_ret pe_bl))
 pss_nil))))))))))))))))))
 (pss_one (ps_ret pe_bl)))), ?_⟩)
  · obtain ⟨a, ns, rfl, _⟩ := h
    rfl
  · obtain ⟨a, ns, rfl, hS, hlen, k⟩ := h
    walk_at "rd"
    refine ⟨_, hS, fun l1 H1 e1 n1 h1 => ⟨by decide, fun l2 H2 e2 n2 h2 => ⟨_, rfl, _, rfl, _, e2 _ _ h1, _, h2, ?_, fun L H3 e3 n3 h3 => ⟨_, rfl, ⟨_, SqL.of h3⟩, ?_⟩⟩⟩⟩
    · have := cutV_length (List.map V.int ns) none (some 10)
      rw [List.length_map] at this
      simp only [List.length_cons, List.length_nil]
      omega
    · generalize hx : cutV (List.map V.int ns) none (some 10) ++ [V.int 0] = xs at h3
      have hi : ∀ x ∈ xs, ∃ c, x = V.int c := by
        intro x hm
        rw [← hx] at hm
        rcases List.mem_append.mp hm with h | h
        · obtain ⟨y, _, rfl⟩ := List.mem_map.mp (List.mem_of_mem_drop (List.mem_of_mem_take h))
          exact ⟨_, rfl⟩
        · exact ⟨_, List.mem_singleton.mp h⟩
      refine forW_by (xs := xs) (fun i σ H => (∃ s1 s2 s3 s4 s5 s6 s7 s8 s9 s10 s11 s12 s13, σ = [some (V.ref a), s1, s2, s3, s4, s5, s6, s7, s8, s9, s10, s11, s12, s13]) ∧ H L = some (.lst xs)) ⟨⟨_, _, _, _, _, _, _, _, _, _, _, _, _, rfl⟩, h3⟩ (fun i σ H _ p => SqL.of p.2) ?_ (fun σ H p => k _)
      rintro i x σ H hxi ⟨⟨s1, s2, s3, s4, s5, s6, s7, s8, s9, s10, s11, s12, s13, rfl⟩, hL⟩
      obtain ⟨c, rfl⟩ := hi x (List.mem_of_getElem? hxi)
      walk_at "rd"
      refine ⟨_, rfl, fun W H4 e4 n4 w4 => ?_⟩
      walk_at "rd"
      refine ⟨_, _, _, rfl, by decide, by decide, w4, by decide, fun p r H5 e5 w5 g hp ne => ?_⟩
      walk_at "rd"
      refine ⟨_, _, rfl, hp, ⟨g.p1, by have := g.p2; omega, g.rn, g.l1, g.l2, g.h1, g.h2, g.f1, g.f2⟩, fun cv H6 e6 hc => ?_⟩
      walk_at "rd"
      have hp := e6 _ _ hp
      unfold tupR at hp
      walk_at "ff"
      generalize hf : toI (V.bl (decide (r.rnd = Str.ofString "floor"))) = f
      have q6 : Kp K W p r cv L xs 899999995 H6 := ⟨w5.mono e6, hp, hc, e6 _ _ (e5 _ _ (fun e => by rw [e] at hL; rw [n4] at hL; cases hL) (e4 _ _ hL)), fun e => by rw [e] at hL; rw [n4] at hL; cases hL⟩
      have gp1 := g.p1
      have gp2 := g.p2
      have gl1 := g.l1
      have gl2 := g.l2
      have gh1 := g.h1
      have gh2 := g.h2
      refine ⟨by decide, by decide, lcR_by (fun D i H => Kp K W p r cv L xs (899999995 - i) H ∧ ∃ ys : List Int, H D = some (.lst (ys.map V.int)) ∧ ys.length = i) (fun D hD => ⟨(q6.same (H' := upd H6 D (.lst [])) fun b o e => by rw [upd_ne (ne_of_none e hD)]; exact e).less (by decide) (by decide), [], upd_same, rfl⟩) ?_ ?_⟩
      · rintro D i H hD hi ⟨q, ys, hy, hl⟩
        have nw : W ≠ D := fun e => by
          obtain ⟨zs, hz⟩ := q6.w.lst
          rw [e, hD] at hz
          cases hz
        have nl : L ≠ D := fun e => by
          have hz := q6.l
          rw [e, hD] at hz
          cases hz
        walk_at "rd"
        refine ⟨_, _, _, rfl, by omega, by omega, q.w, by omega, fun v H7 e7 w7 v1 v2 => ⟨_, rfl, ys.map V.int, e7 _ _ nw.symm hy, ?_, (q.drawn e7 (w7.less (m := 899999995 - (i + 1 : Nat)) (by omega) (by omega))).put (e7 _ _ nw.symm hy) nw nl, ys ++ [r.emin - r.prec - 3 + v], ?_, ?_⟩⟩
        · rw [List.length_map, hl]
          exact Nat.lt_of_lt_of_le hi (by decide)
        · rw [upd_same, List.map_append]
          rfl
        · rw [List.length_append, hl]
          rfl
      · rintro D H hD ⟨q, ys, hy, hl⟩
        have nw : W ≠ D := fun e => by
          obtain ⟨zs, hz⟩ := q6.w.lst
          rw [e, hD] at hz
          cases hz
        walk_at "rd"
        refine ⟨by decide, by decide, by decide, by decide, by decide, by decide, _, _, _, rfl, by decide, by decide, q.w, by decide, fun v H7 e7 w7 v1 v2 => ⟨_, rfl, by decide, fun l4 H8 e8 n8 h8 => ⟨_, rfl, _, e8 _ _ (e7 _ _ nw.symm hy), _, h8, ?_, fun M H9 e9 n9 h9 => ⟨_, rfl, ⟨_, SqL.of h9⟩, ?_⟩⟩⟩⟩
        · rw [List.length_map, hl]
          exact Nat.le_of_ble_eq_true rfl
        have hzi : ∀ x ∈ List.map V.int ys ++ [V.int (10 ^ Int.toNat 17 + v), V.int (0 - (10 ^ Int.toNat 17 + v))], ∃ c, x = V.int c := by
          intro x hx
          rcases List.mem_append.mp hx with h | h
          · obtain ⟨y, _, rfl⟩ := List.mem_map.mp h
            exact ⟨_, rfl⟩
          · rcases List.mem_cons.mp h with h | h
            · exact ⟨_, h⟩
            · exact ⟨_, List.mem_singleton.mp h⟩
        have hzl : (List.map V.int ys ++ [V.int (10 ^ Int.toNat 17 + v), V.int (0 - (10 ^ Int.toNat 17 + v))]).length = 8 := by
          rw [List.length_append, List.length_map, hl]
          rfl
        generalize List.map V.int ys ++ [V.int (10 ^ Int.toNat 17 + v), V.int (0 - (10 ^ Int.toNat 17 + v))] = zs at h9 hzi hzl
        have q9 : Kp K W p r cv L xs 899999988 H9 := ((q.drawn e7 w7).same (Same.tr e8 e9)).less (by decide) (by decide)
        have nm : M ≠ W := fun e => by
          obtain ⟨zs, hz⟩ := ((w7.mono e8)).lst
          rw [← e, n9] at hz
          cases hz
        refine forW_by (xs := zs) (fun i σ H => (∃ s10 s11 s12, σ = [some (V.ref a), some (V.int c), some (V.ref W), some (V.ref p), some cv, some (V.int f),
          some (V.int (r.emin - r.prec - 3)), some (V.int (r.emax - r.emin + r.prec + 8)), some (V.ref D), some (V.int (10 ^ Int.toNat 17 + v)), s10, s11, s12, s13]) ∧ Kp K W p r cv L xs (899999988 - i) H ∧ H M = some (.lst zs)) ⟨⟨_, _, _, rfl⟩, q9.less (by decide) (by decide), h9⟩ (fun i σ H _ p => SqL.of p.2.2) ?_ ?_
        · rintro i x σ H hxi ⟨⟨s10, s11, s12, rfl⟩, q, hM⟩
          obtain ⟨t, rfl⟩ := hzi x (List.mem_of_getElem? hxi)
          have hil : i < 8 := by
            obtain ⟨h, _⟩ := List.getElem?_eq_some_iff.mp hxi
            omega
          walk_at "rd"
          refine ⟨_, _, _, rfl, by decide, by decide, q.w, by omega, fun s Ha ea wa v3 v4 => ?_⟩
          have qa := q.drawn ea wa
          walk_at "rd"
          refine ⟨_, ⟨s, 0, .int t, rfl, goodI (by omega) (by decide), rfl⟩, fun d dx Hb eb nb hd => ?_⟩
          have qb := qa.same eb
          have hfb : f = 0 ∨ f = 1 := by
            rw [← hf]
            cases decide (r.rnd = Str.ofString "floor")
            · exact .inl rfl
            · exact .inr rfl
          have hfl : ∀ x : Int, x * f = zSign r x := fun x => by
            unfold zSign
            rw [← hf]
            by_cases hr : r.rnd = Str.ofString "floor"
            · rw [decide_eq_true hr, if_pos hr, ti_t]
              omega
            · rw [decide_eq_false hr, if_neg hr, ti_f]
              omega
          have hD : DecG K Hb (.ref d) s 0 (.int t) := ⟨⟨d, dx, rfl, hd⟩, goodI (by omega) (by decide)⟩
          have hz0 : (0 : Int) = zSign r 0 := by
            unfold zSign
            split <;> rfl
          walk_at "rd"
          refine ⟨.inl ⟨by omega, by omega⟩, qb.turn g hD .plus (hfl _) fun Hc ec => ⟨true, rfl, iteF ⟨.inl ⟨by omega, by omega⟩, (qb.same ec).turn g (hD.mono ec) .minus (hfl _) fun Hd ed => ⟨true, rfl, iteF (((qb.same ec).same ed).turn g ((hD.mono ec).mono ed) .absolute hz0 fun He ee => ⟨true, rfl, iteF ⟨⟨_, rfl⟩, (((qb.same ec).same ed).same ee).less (by omega) (by omega), ee _ _ (ed _ _ (ec _ _ (eb _ _ (ea _ _ nm hM))))⟩⟩)⟩⟩⟩⟩
        · rintro σ H ⟨⟨s10, s11, s12, rfl⟩, q, hM⟩
          exact ⟨⟨_, _, _, _, _, _, _, _, _, _, _, _, _, rfl⟩, q.l⟩
end

end Tw
/-! The top's run in parts: each part is one kernel run from a written state to a written state. -/
noncomputable section
namespace Hc
open PySem PySem.W PySem.Calls PyProof.Rows HandSHeadRun
def insAll : List (Nat × Obj) → BT → Option BT
  | [], t => some t
  | (i, o) :: r, t => match ((t.ins i o).get i).isSome with
    | true => insAll r (t.ins i o)
    | false => none
def bt0 (P : Params) : BT := match putAll (boot_heap P).objs.toList .nil 0 with
  | some (t, _) => t
  | none => .nil
section
variable (st : SharedT → Thread → Option (SharedT × Thread)) (n0 : Nat) (ann : Option Value) (b : Nat)
def segF : Nat → SharedT → Thread → Option (Flow × SharedT × Code × Pos)
  | 0, _, _ => none
  | m + 1, s, t => match endAt b t with
    | some f => some (f, s, t.code, t.pos)
    | none => match stepOk n0 ann t with
      | false => none
      | true => match st s t with
        | some (s', t') => frS s' fun s' => segF m s' t'
        | none => none
end
theorem segF_ok {tb : String → Option Builtin} {p : Program} {w : World} {n0 : Nat} {ann : Option Value} {b : Nat} : ∀ {m : Nat} {s : SharedT} {t : Thread} {f : Flow} {s' : SharedT} {c : Code} {ps : Pos},
    segF (stepT (denote tb) p w) n0 ann b m s t = some (f, s', c, ps) → segRun tb p w n0 ann b m s.abs t = some (f, s'.abs, c, ps)
  | 0, _, _, _, _, _, _, h => by cases h
  | m + 1, s, t, f, s', c, ps, h => by
    have h1 : (match endAt b t with
      | some f => some (f, s, t.code, t.pos)
      | none => match stepOk n0 ann t with
        | false => none
        | true => match stepT (denote tb) p w s t with
          | some (s', t') => frS s' fun s' => segF (stepT (denote tb) p w) n0 ann b m s' t'
          | none => none) = some (f, s', c, ps) := h
    unfold segRun
    cases he : endAt b t with
    | some g =>
      rw [he] at h1
      have h2 : some (g, s, t.code, t.pos) = some (f, s', c, ps) := h1
      cases h2
      rfl
    | none =>
      rw [he] at h1
      cases hk : stepOk n0 ann t with
      | false =>
        rw [hk] at h1
        cases h1
      | true =>
        rw [hk] at h1
        have h2 : (match stepT (denote tb) p w s t with
          | some (s', t') => frS s' fun s' => segF (stepT (denote tb) p w) n0 ann b m s' t'
          | none => none) = some (f, s', c, ps) := h1
        cases hs : stepT (denote tb) p w s t with
        | none =>
          rw [hs] at h2
          cases h2
        | some r =>
          obtain ⟨s2, t2⟩ := r
          rw [hs] at h2
          have h3 : (frS s2 fun s' => segF (stepT (denote tb) p w) n0 ann b m s' t2) = some (f, s', c, ps) := h2
          rw [frS_eq] at h3
          have q := segF_ok h3
          show (match step (denote tb) p w s.abs t with
            | .go s' t' => segRun tb p w n0 ann b m s' t'
            | .halt _ _ => none) = some (f, s'.abs, c, ps)
          rw [stepT_spec hs]
          exact q
/-- a part, by the library's twins -/
theorem seg_of {p : Program} {w : World} {n0 : Nat} {ann : Option Value} {b m : Nat} {s s' : SharedT} {t : Thread} {f : Flow} {c : Code} {ps : Pos}
    (h : segF (stepQ (denQ tabQ) p w) n0 ann b m s t = some (f, s', c, ps)) : segRun treeTable p w n0 ann b m s.abs t = some (f, s'.abs, c, ps) := by
  refine segF_ok ?_
  rw [stepQ_eq, denQ_eq, tabQ_eq]
  exact h
def goT (st : SharedT → Thread → Option (SharedT × Thread)) (n0 : Nat) (ann : Option Value) : Nat → SharedT → Thread → Option (SharedT × Thread)
  | 0, s, t => some (s, t)
  | m + 1, s, t => match through t with
    | true => none
    | false => match stepOk n0 ann t with
      | false => none
      | true => match st s t with
        | some (s', t') => frS s' fun s' => goT st n0 ann m s' t'
        | none => none
theorem goT_ok {tb : String → Option Builtin} {p : Program} {w : World} {n0 : Nat} {ann : Option Value} : ∀ {m : Nat} {s s' : SharedT} {t t' : Thread},
    goT (stepT (denote tb) p w) n0 ann m s t = some (s', t') → topGo tb p w n0 ann m s.abs t = some (s'.abs, t')
  | 0, _, _, _, _, h => by
    cases h
    rfl
  | m + 1, s, s', t, t', h => by
    have h1 : (match through t with
      | true => none
      | false => match stepOk n0 ann t with
        | false => none
        | true => match stepT (denote tb) p w s t with
          | some (s', t') => frS s' fun s' => goT (stepT (denote tb) p w) n0 ann m s' t'
          | none => none) = some (s', t') := h
    unfold topGo
    cases ht : through t with
    | true =>
      rw [ht] at h1
      cases h1
    | false =>
      rw [ht] at h1
      cases hk : stepOk n0 ann t with
      | false =>
        rw [hk] at h1
        cases h1
      | true =>
        rw [hk] at h1
        have h2 : (match stepT (denote tb) p w s t with
          | some (s', t') => frS s' fun s' => goT (stepT (denote tb) p w) n0 ann m s' t'
          | none => none) = some (s', t') := h1
        cases hs : stepT (denote tb) p w s t with
        | none =>
          rw [hs] at h2
          cases h2
        | some r =>
          obtain ⟨s2, t2⟩ := r
          rw [hs] at h2
          have h3 : (frS s2 fun s' => goT (stepT (denote tb) p w) n0 ann m s' t2) = some (s', t') := h2
          rw [frS_eq] at h3
          have q := goT_ok h3
          show (match step (denote tb) p w s.abs t with
            | .go s' t' => topGo tb p w n0 ann m s' t'
            | .halt _ _ => none) = some (s'.abs, t')
          rw [stepT_spec hs]
          exact q
theorem pre_of {p : Program} {w : World} {os : OsState} {n0 m : Nat} {ann : Option Value} {s' : SharedT} {t t' : Thread} (e : putAll (boot_heap w.params).objs.toList .nil 0 = some (bt0 w.params, n0))
    (h : goT (stepQ (denQ tabQ) p w) n0 ann m (bootT w os (bt0 w.params, n0)) t = some (s', t')) : topGo treeTable p w n0 ann m ⟨boot_heap w.params, #[], boot_drawn, boot_toks, os⟩ t = some (s'.abs, t') := by
  have h2 : goT (stepT (denote treeTable) p w) n0 ann m (bootT w os (bt0 w.params, n0)) t = some (s', t') := by
    rw [stepQ_eq, denQ_eq, tabQ_eq]
    exact h
  have q := goT_ok h2
  have eh := putAll_heap e
  have eb : (bootT w os (bt0 w.params, n0)).abs = ⟨boot_heap w.params, #[], boot_drawn, boot_toks, os⟩ := by
    show (⟨absHeap (bt0 w.params) n0 (boot_heap w.params).life, #[], boot_drawn, boot_toks, os⟩ : Shared) = _
    rw [eh]
  rw [eb] at q
  exact q
theorem left_cut {p q : Program} {loose : List Str} {Xt : Shared → Bool} {α : Type} {Yf : Shared → α} {Ya : World → α} {N M : Nat}
    (e : opening p = plainProg p.main.scope.names) (hN : Nat.ble 600 N = true) (f : ∀ s, fenceModules? p s = some s) (le : Nat.ble M N = true)
    (run : ∀ (w : World) (os : OsState), ∃ s : Shared, topRun treeTable p w (boot_heap w.params).objs.size (bootAnn w) M ⟨boot_heap w.params, #[], boot_drawn, boot_toks, os⟩ (topStub p) = some s ∧
      looksF p (boot_heap w.params) s = true ∧ openSeen q loose (importedModules p.main.body) Xt true s = openGood q loose ∧ Yf s = Ya w) :
    LeftO p q loose Xt Yf Ya N true := fun w => by
  obtain ⟨⟨h, gs, d, k, os⟩, a, a'⟩ := Option.map_eq_some_iff.mp (boot_open e hN f w)
  obtain ⟨rfl, rfl, rfl, rfl⟩ : h = boot_heap w.params ∧ gs = Array.mk [] ∧ d = boot_drawn ∧ k = boot_toks := by simpa using a'
  obtain ⟨s, hs, l1, l2, l3⟩ := run w os
  have r := topRun_mono (N - M) _ _ _ _ hs
  rw [show M + (N - M) = N by have := Nat.le_of_ble_eq_true le; omega] at r
  have l1' : (staticsOk (importedModules p.main.body) (boot_heap w.params) s.heap && namesBound p s.heap && gensDone s && laidKept (boot_heap w.params) s.heap) = true := l1
  have t : topFrom treeTable p w N ⟨boot_heap w.params, Array.mk [], boot_drawn, boot_toks, os⟩ = some s := by
    unfold topFrom
    dsimp only
    rw [boot_ns]
    show (topRun treeTable p w (boot_heap w.params).objs.size (bootAnn w) N ⟨boot_heap w.params, #[], boot_drawn, boot_toks, os⟩ (topStub p)).bind _ = _
    rw [r]
    show (match staticsOk (importedModules p.main.body) (boot_heap w.params) s.heap && namesBound p s.heap && gensDone s && laidKept (boot_heap w.params) s.heap with | true => some s | false => none) = _
    rw [l1']
  unfold openEnds
  rw [a]
  show (topFrom treeTable p w N _).map _ = _
  rw [t]
  exact congrArg some (Prod.ext l2 l3)
theorem head_cut {r : OpenRow} {q : Program} {H : Hook} {M : Nat} {loose : List PySem.Str} {d : DefRec} {kwd : List (PySem.Str × PySem.Expr)}
    (e : opening r.prog = plainProg r.prog.main.scope.names) (f : ∀ s, fenceModules? r.prog s = some s)
    (run : ∀ (w : World) (os : OsState), ∃ s : Shared, topRun treeTable r.prog w (boot_heap w.params).objs.size (bootAnn w) M ⟨boot_heap w.params, #[], boot_drawn, boot_toks, os⟩ (topStub r.prog) = some s ∧
      looksF r.prog (boot_heap w.params) s = true ∧ openSeen q loose (importedModules r.prog.main.body) (fun s => xlAt q [] s && recOk r.toRowW.records s) true s = openGood q loose ∧ H.obs s = H.val w)
    (hdef : defOf q r.name = some (d, kwd)) (hp : r.prog.theDef r.name = some (d.params, d.body, d.scope)) (hk : kwWritten? d.params.kwonlyargs d.params.kw_defaults = some kwd)
    (hwr : (!r.writes || r.records.isEmpty) = true) (k1 : r.wellSaid = true) (ok : (chainsOk q && opensWell r.prog && (frees r.toRowW && r.within.isEmpty)) = true) (hb : r.prog.bare) (hw : r.toRowW.promised)
    (call : WalkO q loose (XL q []) H.says r.toRowW d kwd fun f vs => PySem.call f vs) : r.Holds := by
  have left : LeftO r.prog q loose (fun s => xlAt q [] s && recOk r.toRowW.records s) H.obs H.val (M + 600) true :=
    left_cut (M := M) e (Nat.ble_eq_true_of_le (by omega)) f (Nat.ble_eq_true_of_le (by omega)) run
  exact holds_open (r := r) (q := q) (loose := loose) (XP := XL q []) (YP := H.says) (d := d) (kwd := kwd) left H.of H.keeps (fun s z => xl_of s (Bool.and_eq_true_iff.mp z).1) XL.keeps hdef hp hk (fun s z => recFacts_of (Bool.and_eq_true_iff.mp z).2) hwr k1 ok hb hw call
/-- a Hook over given addresses, with further tests -/
def hookX (as : List Addr) (fa : List He.Fa) (fn : List He.DefD) (ex : List (PySem.W.Frag → Bool)) : PySem.W.Hook where
  α := He.AlD × Bool
  obs := fun s => (He.obsD fa fn (He.frG s.heap.get? as), ex.all fun f => f (He.frG s.heap.get? as))
  val := fun _ => (He.valD fn, true)
  says := fun _ h => ∃ K : PySem.W.Frag, K.In h ∧ He.SaysD fa fn K ∧ (ex.all fun f => f K) = true
  of := fun _ _ e => ⟨_, He.frG_in, congrArg Prod.fst e, congrArg Prod.snd e⟩
  keeps := fun _ _ _ ⟨K, hK, c⟩ k => ⟨K, PySem.W.Frag.In.keeps hK k, c⟩
theorem hookX_obs {as : List Addr} {fa : List He.Fa} {fn : List He.DefD} {ex : List (PySem.W.Frag → Bool)} {s : SharedT} {w : World} {K : PySem.W.Frag} (hk : He.frG (getT s) as = K) (h : He.obsD fa fn K = He.valD fn) (h2 : (ex.all fun f => f K) = true) :
    (hookX as fa fn ex).obs s.abs = (hookX as fa fn ex).val w := by
  have e : getT s = s.abs.heap.get? := funext (getT_eq s)
  show (He.obsD fa fn (He.frG s.abs.heap.get? as), ex.all fun f => f (He.frG s.abs.heap.get? as)) = (He.valD fn, true)
  rw [← e, hk, h, h2]
theorem ex_at {ex : List (PySem.W.Frag → Bool)} {K : PySem.W.Frag} (h : (ex.all fun f => f K) = true) (i : Nat) {f : PySem.W.Frag → Bool} (e : ex[i]? = some f) : f K = true := List.all_eq_true.mp h f (List.mem_of_getElem? e)
end Hc
end

/-! tablesWhole of a program, the body in parts. -/
namespace Tb
open PySem PySem.TablesWhole
theorem wSs_app (top sc : Scope) (cx : PySem.TablesWhole.Ctx) (b : List Stmt) : ∀ a : List Stmt, wSs holds top cx sc (a ++ b) = (wSs holds top cx sc a && wSs holds top cx sc b)
  | [] => by
    rw [List.nil_append, wSs]
    rfl
  | s :: r => by
    rw [List.cons_append, wSs, wSs, wSs_app top sc cx b r]
    exact (Bool.and_assoc _ _ _).symm
theorem tw_of {p : Program} (h1 : noTwice p.main.scope = true) (told : wSs gather p.main.scope ⟨p.main.scope, [], [], [], none⟩ p.main.scope p.main.body = [])
    (hb : wSs holds p.main.scope ⟨p.main.scope, [], [], [], none⟩ p.main.scope p.main.body = true) (e1 : p.modules = []) (e2 : p.parses = []) (e3 : p.harvested = []) : p.tablesWhole = true := by
  have hm : wModule holds p.main = true := by
    unfold wModule
    rw [told]
    show (true && (noTwice p.main.scope && (wSs holds p.main.scope ⟨p.main.scope, [], [], [], none⟩ p.main.scope p.main.body && true))) = true
    rw [h1, hb]
    rfl
  unfold Program.tablesWhole wProgram
  rw [e1, e2, e3]
  show (wModule holds p.main && _) = true
  rw [hm]
  rfl
end Tb

noncomputable section
namespace Ht
open PySem PySem.W PySem.Calls PyProof.Rows HandSHeadRun Hc Tw L2
abbrev pr : Program := PySem.Challenge.pw_tenwhole_k14_zeros_finished
def env : Env := { scope := pr.main.scope, locals := mainNs, globals := mainNs, cells := [], code := (.ref 13), frame := some 14 }
def cE : Code := .body (behindTheImports pr) env
abbrev fq : Pos := ⟨0, 0, 0, 0⟩
abbrev an : Option Value := (some (.ref 6))
def o_pre_11 (P : Params) : Obj := ⟨(.type "tuple"), none, (.seq ⟨([] : List Value)⟩ 0), ⟨[]⟩⟩
def o_pre_12 (P : Params) : Obj := ⟨.none, none, (.fields ⟨([] : List Value)⟩), ⟨[]⟩⟩
def o_pre_13 (P : Params) : Obj := ⟨(.type "code"), none, (.fields ⟨(([(.str "<module>" 182), (.str "<module>" 183), (.str "/claim/cut.py" 184), (.int (1) 0), (.int (0) 0), (.int (0) 0), (.int (0) 0), (.int (0) 0), (.ref 11), (.bool false), (.int (181) 0), (.ref 12)] : List Value) ++ ([.none, .none, .none, .none, (.int (185) 0), (.int (1) 0), (.str "/claim/cut.py" 186)] : List Value))⟩), ⟨[]⟩⟩
def o_pre_14 (P : Params) : Obj := ⟨(.type "frame"), none, .plain, ⟨[(some (.ref 13)), (some (.ref 3)), (some (.ref 3)), none, (some (.str "__main__" 164)), none, (some (.ref 0))]⟩⟩
def l_pre (P : Params) : List (Nat × Obj) := ([(11, o_pre_11 P), (12, o_pre_12 P), (13, o_pre_13 P), (14, o_pre_14 P)] : List (Nat × Obj))
def t_pre (P : Params) : BT := (insAll (l_pre P) (bt0 P)).getD .nil
def S_pre (w : World) (os : OsState) : SharedT := ⟨t_pre w.params, 15, {}, #[], ⟨0, 0, 0, 0⟩, 187, os⟩
def l_block (P : Params) : List (Nat × Obj) := ([] : List (Nat × Obj))
def t_block (P : Params) : BT := (insAll (l_block P) (t_pre P)).getD .nil
def S_block (w : World) (os : OsState) : SharedT := ⟨t_block w.params, 15, {}, #[], ⟨0, 0, 0, 0⟩, 187, os⟩
def o_11_2 (P : Params) : Obj := ⟨.none, none, (.dict ⟨(([⟨PyData.keyHash P "type.__subclasses__.ArithmeticError.0", (.str "type.__subclasses__.ArithmeticError.0" 235), (.int (40) 0)⟩, ⟨PyData.keyHash P "type.__subclasses__.ArithmeticError.n", (.str "type.__subclasses__.ArithmeticError.n" 236), (.int (1) 0)⟩] : List DictEntry))⟩ 2), ⟨[]⟩⟩
def o_11_3 (P : Params) : Obj := ⟨(.type "dict"), none, (.dict ⟨(([⟨PyData.keyHash P "__name__", (.str "__name__" 165), (.str "tenwhole.signals" 194)⟩, ⟨PyData.keyHash P "__doc__", (.str "__doc__" 166), .none⟩, ⟨PyData.keyHash P "__package__", (.str "__package__" 167), .none⟩, ⟨PyData.keyHash P "__loader__", (.str "__loader__" 168), (.builtin "__main__.__loader__#opaque")⟩, ⟨PyData.keyHash P "__spec__", (.str "__spec__" 169), .none⟩, ⟨PyData.keyHash P "__annotations__", (.str "__annotations__" 170), (.ref 6)⟩, ⟨PyData.keyHash P "__builtins__", (.str "__builtins__" 171), (.ref 4)⟩, ⟨PyData.keyHash P "__file__", (.str "__file__" 173), (.str "/claim/cut.py" 172)⟩, ⟨PyData.keyHash P "__cached__", (.str "__cached__" 174), .none⟩, ⟨PyData.keyHash P "_wall", (.str "_wall" 193), (.ref 21)⟩, ⟨PyData.keyHash P "ORDER", (.str "ORDER" 204), (.ref 22)⟩, ⟨PyData.keyHash P "INVALID", (.str "INVALID" 209), (.ref 23)⟩] : List DictEntry) ++ ([⟨PyData.keyHash P "TenSignal", (.str "TenSignal" 238), (.ref 40)⟩, ⟨PyData.keyHash P "Clamped", (.str "Clamped" 254), (.ref 53)⟩, ⟨PyData.keyHash P "DivisionByZero", (.str "DivisionByZero" 270), (.ref 65)⟩, ⟨PyData.keyHash P "Inexact", (.str "Inexact" 286), (.ref 77)⟩, ⟨PyData.keyHash P "InvalidOperation", (.str "InvalidOperation" 302), (.ref 89)⟩, ⟨PyData.keyHash P "Overflow", (.str "Overflow" 318), (.ref 101)⟩, ⟨PyData.keyHash P "Rounded", (.str "Rounded" 334), (.ref 113)⟩] : List DictEntry))⟩ 19), ⟨[]⟩⟩
def o_11_12 (P : Params) : Obj := ⟨.none, none, (.fields ⟨(([(.int (1) 0), (.int (0) 0), (.ref 20), (.int (7) 0), (.int (0) 0), (.ref 29), (.int (12) 0), (.int (0) 0), (.ref 49), (.int (14) 0), (.int (0) 0), (.ref 61)] : List Value) ++ ([(.int (16) 0), (.int (0) 0), (.ref 73), (.int (18) 0), (.int (0) 0), (.ref 85), (.int (20) 0), (.int (0) 0), (.ref 97), (.int (22) 0), (.int (0) 0), (.ref 109)] : List Value))⟩), ⟨[]⟩⟩
def o_11_15 (P : Params) : Obj := ⟨(.type "tuple"), none, (.seq ⟨([] : List Value)⟩ 0), ⟨[]⟩⟩
def o_11_16 (P : Params) : Obj := ⟨.none, none, (.fields ⟨([] : List Value)⟩), ⟨[]⟩⟩
def o_11_17 (P : Params) : Obj := ⟨(.type "tuple"), none, (.seq ⟨(([(.str "k" 190)] : List Value))⟩ 0), ⟨[]⟩⟩
def o_11_18 (P : Params) : Obj := ⟨(.type "tuple"), none, (.seq ⟨([] : List Value)⟩ 0), ⟨[]⟩⟩
def o_11_19 (P : Params) : Obj := ⟨.none, none, (.func ⟨"_wall", "_wall", defArgs (top 0), .stmts (defBody (top 0)), defScope (top 0), 0, [], .none, .none, .none, .none, none, .none, .none, 0⟩), ⟨[]⟩⟩
def o_11_20 (P : Params) : Obj := ⟨(.type "code"), none, (.fields ⟨(([(.str "_wall" 187), (.str "_wall" 188), (.str "/claim/cut.py" 189), (.int (1) 0), (.int (1) 0), (.int (0) 0), (.int (0) 0), (.int (3) 0), (.ref 15), (.bool true), (.int (181) 0), (.ref 16)] : List Value) ++ ([.none, (.ref 17), (.ref 18), (.ref 19), (.int (191) 0), (.int (1) 0), (.str "/claim/cut.py" 192)] : List Value))⟩), ⟨[]⟩⟩
def o_11_21 (P : Params) : Obj := ⟨(.type "function"), none, (.func ⟨"_wall", "_wall", defArgs (top 0), .stmts (defBody (top 0)), defScope (top 0), 3, [], .none, .none, .none, (.str "__main__" 164), none, (.ref 20), .none, 0⟩), ⟨[]⟩⟩
def o_11_22 (P : Params) : Obj := ⟨(.type "tuple"), none, (.seq ⟨(([(.str "InvalidOperation" 196), (.str "DivisionByZero" 197), (.str "Overflow" 198), (.str "Underflow" 199), (.str "Subnormal" 200), (.str "Inexact" 201), (.str "Rounded" 202), (.str "Clamped" 203)] : List Value))⟩ 0), ⟨[]⟩⟩
def o_11_23 (P : Params) : Obj := ⟨(.type "tuple"), none, (.seq ⟨(([(.str "InvalidOperation" 205), (.str "ConversionSyntax" 206), (.str "DivisionImpossible" 207), (.str "DivisionUndefined" 208)] : List Value))⟩ 0), ⟨[]⟩⟩
def o_11_24 (P : Params) : Obj := ⟨(.type "tuple"), none, (.seq ⟨(([(.type "ArithmeticError")] : List Value))⟩ 0), ⟨[]⟩⟩
def o_11_25 (P : Params) : Obj := ⟨(.type "builtin_function_or_method"), none, (.fields ⟨(([(.builtin "type.__prepare__"), (.type "type")] : List Value))⟩), ⟨[]⟩⟩
def o_11_26 (P : Params) : Obj := ⟨(.type "dict"), none, (.dict ⟨(([⟨PyData.keyHash P "__module__", (.str "__module__" 217), (.str "tenwhole.signals" 194)⟩, ⟨PyData.keyHash P "__qualname__", (.str "__qualname__" 219), (.str "TenSignal" 218)⟩, ⟨PyData.keyHash P "__firstlineno__", (.str "__firstlineno__" 221), (.int (7) 220)⟩, ⟨PyData.keyHash P "__init__", (.str "__init__" 229), (.ref 37)⟩, ⟨PyData.keyHash P "__static_attributes__", (.str "__static_attributes__" 231), (.ref 38)⟩] : List DictEntry))⟩ 5), ⟨[]⟩⟩
def o_11_27 (P : Params) : Obj := ⟨(.type "tuple"), none, (.seq ⟨([] : List Value)⟩ 0), ⟨[]⟩⟩
def o_11_28 (P : Params) : Obj := ⟨.none, none, (.fields ⟨(([(.int (9) 0), (.int (4) 0), (.ref 36)] : List Value))⟩), ⟨[]⟩⟩
def o_11_29 (P : Params) : Obj := ⟨(.type "code"), none, (.fields ⟨(([(.str "TenSignal" 212), (.str "TenSignal" 213), (.str "/claim/cut.py" 214), (.int (7) 0), (.int (0) 0), (.int (0) 0), (.int (0) 0), (.int (0) 0), (.ref 27), (.bool false), (.int (181) 0), (.ref 28)] : List Value) ++ ([.none, .none, .none, .none, (.int (215) 0), (.int (7) 0), (.str "/claim/cut.py" 216)] : List Value))⟩), ⟨[]⟩⟩
def o_11_30 (P : Params) : Obj := ⟨(.type "frame"), none, .plain, ⟨[(some (.ref 29)), (some (.ref 3)), (some (.ref 26)), none, (some (.str "tenwhole.signals" 194)), none, (some (.ref 0))]⟩⟩
def o_11_31 (P : Params) : Obj := ⟨(.type "tuple"), none, (.seq ⟨([] : List Value)⟩ 0), ⟨[]⟩⟩
def o_11_32 (P : Params) : Obj := ⟨.none, none, (.fields ⟨([] : List Value)⟩), ⟨[]⟩⟩
def o_11_33 (P : Params) : Obj := ⟨(.type "tuple"), none, (.seq ⟨(([(.str "self" 225), (.str "conditions" 226)] : List Value))⟩ 0), ⟨[]⟩⟩
def o_11_34 (P : Params) : Obj := ⟨(.type "tuple"), none, (.seq ⟨([] : List Value)⟩ 0), ⟨[]⟩⟩
def o_11_35 (P : Params) : Obj := ⟨.none, none, (.func ⟨"__init__", "TenSignal.__init__", defArgs (inClass (top 4) 0), .stmts (defBody (inClass (top 4) 0)), defScope (inClass (top 4) 0), 0, [], .none, .none, .none, .none, none, .none, .none, 0⟩), ⟨[]⟩⟩
def o_11_36 (P : Params) : Obj := ⟨(.type "code"), none, (.fields ⟨(([(.str "__init__" 222), (.str "TenSignal.__init__" 223), (.str "/claim/cut.py" 224), (.int (9) 0), (.int (2) 0), (.int (0) 0), (.int (0) 0), (.int (3) 0), (.ref 31), (.bool true), (.int (181) 0), (.ref 32)] : List Value) ++ ([.none, (.ref 33), (.ref 34), (.ref 35), (.int (227) 0), (.int (9) 0), (.str "/claim/cut.py" 228)] : List Value))⟩), ⟨[]⟩⟩
def o_11_37 (P : Params) : Obj := ⟨(.type "function"), none, (.func ⟨"__init__", "TenSignal.__init__", defArgs (inClass (top 4) 0), .stmts (defBody (inClass (top 4) 0)), defScope (inClass (top 4) 0), 3, [], .none, .none, .none, (.str "tenwhole.signals" 194), none, (.ref 36), .none, 0⟩), ⟨[]⟩⟩
def o_11_38 (P : Params) : Obj := ⟨(.type "tuple"), none, (.seq ⟨(([(.str "conditions" 230)] : List Value))⟩ 0), ⟨[]⟩⟩
def o_11_39 (P : Params) : Obj := ⟨(.type "dict"), none, (.dict ⟨(([⟨PyData.keyHash P "__module__", (.str "__module__" 217), (.str "tenwhole.signals" 194)⟩, ⟨PyData.keyHash P "__firstlineno__", (.str "__firstlineno__" 221), (.int (7) 220)⟩, ⟨PyData.keyHash P "__init__", (.str "__init__" 229), (.ref 37)⟩, ⟨PyData.keyHash P "__static_attributes__", (.str "__static_attributes__" 231), (.ref 38)⟩, ⟨PyData.keyHash P "__weakref__", (.str "__weakref__" 233), (.ref 41)⟩, ⟨PyData.keyHash P "__doc__", (.str "__doc__" 234), .none⟩] : List DictEntry))⟩ 3), ⟨[]⟩⟩
def o_11_40 (P : Params) : Obj := ⟨(.type "type"), none, (.cls ⟨"TenSignal", [(.type "ArithmeticError")], [(.ref 40), (.type "ArithmeticError"), (.type "Exception"), (.type "BaseException"), (.type "object")], 39, "TenSignal", true, [], (([(.ref 53), (.ref 65), (.ref 77), (.ref 89), (.ref 101), (.ref 113)] : List Value)), false, none, false⟩), ⟨[(some (.ref 24)), none, (some (.str "TenSignal" 210)), (some (.str "TenSignal" 218)), (some (.builtin "ArithmeticError.__new__")), (some (.bool true))]⟩⟩
def o_11_41 (P : Params) : Obj := ⟨(.type "getset_descriptor"), none, (.fields ⟨(([(.str "__weakref__" 232), (.ref 40), (.builtin "ExceptionGroup.__weakref__"), .none] : List Value))⟩), ⟨[]⟩⟩
def o_11_42 (P : Params) : Obj := ⟨(.type "super"), none, (.fields ⟨(([(.ref 40), (.ref 40), (.ref 40)] : List Value))⟩), ⟨[]⟩⟩
def o_11_43 (P : Params) : Obj := ⟨(.type "builtin_function_or_method"), none, (.fields ⟨(([(.builtin "object.__init_subclass__"), (.ref 40)] : List Value))⟩), ⟨[]⟩⟩
def o_11_44 (P : Params) : Obj := ⟨(.type "tuple"), none, (.seq ⟨(([(.ref 40)] : List Value))⟩ 0), ⟨[]⟩⟩
def o_11_45 (P : Params) : Obj := ⟨(.type "builtin_function_or_method"), none, (.fields ⟨(([(.builtin "type.__prepare__"), (.type "type")] : List Value))⟩), ⟨[]⟩⟩
def o_11_46 (P : Params) : Obj := ⟨(.type "dict"), none, (.dict ⟨(([⟨PyData.keyHash P "__module__", (.str "__module__" 246), (.str "tenwhole.signals" 194)⟩, ⟨PyData.keyHash P "__qualname__", (.str "__qualname__" 248), (.str "Clamped" 247)⟩, ⟨PyData.keyHash P "__firstlineno__", (.str "__firstlineno__" 250), (.int (12) 249)⟩, ⟨PyData.keyHash P "__static_attributes__", (.str "__static_attributes__" 251), (.ref 51)⟩] : List DictEntry))⟩ 4), ⟨[]⟩⟩
def o_11_47 (P : Params) : Obj := ⟨(.type "tuple"), none, (.seq ⟨([] : List Value)⟩ 0), ⟨[]⟩⟩
def o_11_48 (P : Params) : Obj := ⟨.none, none, (.fields ⟨([] : List Value)⟩), ⟨[]⟩⟩
def o_11_49 (P : Params) : Obj := ⟨(.type "code"), none, (.fields ⟨(([(.str "Clamped" 241), (.str "Clamped" 242), (.str "/claim/cut.py" 243), (.int (12) 0), (.int (0) 0), (.int (0) 0), (.int (0) 0), (.int (0) 0), (.ref 47), (.bool false), (.int (181) 0), (.ref 48)] : List Value) ++ ([.none, .none, .none, .none, (.int (244) 0), (.int (12) 0), (.str "/claim/cut.py" 245)] : List Value))⟩), ⟨[]⟩⟩
def o_11_50 (P : Params) : Obj := ⟨(.type "frame"), none, .plain, ⟨[(some (.ref 49)), (some (.ref 3)), (some (.ref 46)), none, (some (.str "tenwhole.signals" 194)), none, (some (.ref 0))]⟩⟩
def o_11_51 (P : Params) : Obj := ⟨(.type "tuple"), none, (.seq ⟨([] : List Value)⟩ 0), ⟨[]⟩⟩
def o_11_52 (P : Params) : Obj := ⟨(.type "dict"), none, (.dict ⟨(([⟨PyData.keyHash P "__module__", (.str "__module__" 246), (.str "tenwhole.signals" 194)⟩, ⟨PyData.keyHash P "__firstlineno__", (.str "__firstlineno__" 250), (.int (12) 249)⟩, ⟨PyData.keyHash P "__static_attributes__", (.str "__static_attributes__" 251), (.ref 51)⟩, ⟨PyData.keyHash P "__doc__", (.str "__doc__" 252), .none⟩] : List DictEntry))⟩ 2), ⟨[]⟩⟩
def o_11_53 (P : Params) : Obj := ⟨(.type "type"), none, (.cls ⟨"Clamped", [(.ref 40)], [(.ref 53), (.ref 40), (.type "ArithmeticError"), (.type "Exception"), (.type "BaseException"), (.type "object")], 52, "Clamped", true, [], ([] : List Value), false, none, false⟩), ⟨[(some (.ref 44)), none, (some (.str "Clamped" 239)), (some (.str "Clamped" 247)), (some (.builtin "ArithmeticError.__new__")), (some (.bool true))]⟩⟩
def o_11_54 (P : Params) : Obj := ⟨(.type "super"), none, (.fields ⟨(([(.ref 53), (.ref 53), (.ref 53)] : List Value))⟩), ⟨[]⟩⟩
def o_11_55 (P : Params) : Obj := ⟨(.type "builtin_function_or_method"), none, (.fields ⟨(([(.builtin "object.__init_subclass__"), (.ref 53)] : List Value))⟩), ⟨[]⟩⟩
def o_11_56 (P : Params) : Obj := ⟨(.type "tuple"), none, (.seq ⟨(([(.ref 40)] : List Value))⟩ 0), ⟨[]⟩⟩
def o_11_57 (P : Params) : Obj := ⟨(.type "builtin_function_or_method"), none, (.fields ⟨(([(.builtin "type.__prepare__"), (.type "type")] : List Value))⟩), ⟨[]⟩⟩
def o_11_58 (P : Params) : Obj := ⟨(.type "dict"), none, (.dict ⟨(([⟨PyData.keyHash P "__module__", (.str "__module__" 262), (.str "tenwhole.signals" 194)⟩, ⟨PyData.keyHash P "__qualname__", (.str "__qualname__" 264), (.str "DivisionByZero" 263)⟩, ⟨PyData.keyHash P "__firstlineno__", (.str "__firstlineno__" 266), (.int (14) 265)⟩, ⟨PyData.keyHash P "__static_attributes__", (.str "__static_attributes__" 267), (.ref 63)⟩] : List DictEntry))⟩ 4), ⟨[]⟩⟩
def o_11_59 (P : Params) : Obj := ⟨(.type "tuple"), none, (.seq ⟨([] : List Value)⟩ 0), ⟨[]⟩⟩
def o_11_60 (P : Params) : Obj := ⟨.none, none, (.fields ⟨([] : List Value)⟩), ⟨[]⟩⟩
def o_11_61 (P : Params) : Obj := ⟨(.type "code"), none, (.fields ⟨(([(.str "DivisionByZero" 257), (.str "DivisionByZero" 258), (.str "/claim/cut.py" 259), (.int (14) 0), (.int (0) 0), (.int (0) 0), (.int (0) 0), (.int (0) 0), (.ref 59), (.bool false), (.int (181) 0), (.ref 60)] : List Value) ++ ([.none, .none, .none, .none, (.int (260) 0), (.int (14) 0), (.str "/claim/cut.py" 261)] : List Value))⟩), ⟨[]⟩⟩
def o_11_62 (P : Params) : Obj := ⟨(.type "frame"), none, .plain, ⟨[(some (.ref 61)), (some (.ref 3)), (some (.ref 58)), none, (some (.str "tenwhole.signals" 194)), none, (some (.ref 0))]⟩⟩
def o_11_63 (P : Params) : Obj := ⟨(.type "tuple"), none, (.seq ⟨([] : List Value)⟩ 0), ⟨[]⟩⟩
def o_11_64 (P : Params) : Obj := ⟨(.type "dict"), none, (.dict ⟨(([⟨PyData.keyHash P "__module__", (.str "__module__" 262), (.str "tenwhole.signals" 194)⟩, ⟨PyData.keyHash P "__firstlineno__", (.str "__firstlineno__" 266), (.int (14) 265)⟩, ⟨PyData.keyHash P "__static_attributes__", (.str "__static_attributes__" 267), (.ref 63)⟩, ⟨PyData.keyHash P "__doc__", (.str "__doc__" 268), .none⟩] : List DictEntry))⟩ 2), ⟨[]⟩⟩
def o_11_65 (P : Params) : Obj := ⟨(.type "type"), none, (.cls ⟨"DivisionByZero", [(.ref 40)], [(.ref 65), (.ref 40), (.type "ArithmeticError"), (.type "Exception"), (.type "BaseException"), (.type "object")], 64, "DivisionByZero", true, [], ([] : List Value), false, none, false⟩), ⟨[(some (.ref 56)), none, (some (.str "DivisionByZero" 255)), (some (.str "DivisionByZero" 263)), (some (.builtin "ArithmeticError.__new__")), (some (.bool true))]⟩⟩
def o_11_66 (P : Params) : Obj := ⟨(.type "super"), none, (.fields ⟨(([(.ref 65), (.ref 65), (.ref 65)] : List Value))⟩), ⟨[]⟩⟩
def o_11_67 (P : Params) : Obj := ⟨(.type "builtin_function_or_method"), none, (.fields ⟨(([(.builtin "object.__init_subclass__"), (.ref 65)] : List Value))⟩), ⟨[]⟩⟩
def o_11_68 (P : Params) : Obj := ⟨(.type "tuple"), none, (.seq ⟨(([(.ref 40)] : List Value))⟩ 0), ⟨[]⟩⟩
def o_11_69 (P : Params) : Obj := ⟨(.type "builtin_function_or_method"), none, (.fields ⟨(([(.builtin "type.__prepare__"), (.type "type")] : List Value))⟩), ⟨[]⟩⟩
def o_11_70 (P : Params) : Obj := ⟨(.type "dict"), none, (.dict ⟨(([⟨PyData.keyHash P "__module__", (.str "__module__" 278), (.str "tenwhole.signals" 194)⟩, ⟨PyData.keyHash P "__qualname__", (.str "__qualname__" 280), (.str "Inexact" 279)⟩, ⟨PyData.keyHash P "__firstlineno__", (.str "__firstlineno__" 282), (.int (16) 281)⟩, ⟨PyData.keyHash P "__static_attributes__", (.str "__static_attributes__" 283), (.ref 75)⟩] : List DictEntry))⟩ 4), ⟨[]⟩⟩
def o_11_71 (P : Params) : Obj := ⟨(.type "tuple"), none, (.seq ⟨([] : List Value)⟩ 0), ⟨[]⟩⟩
def o_11_72 (P : Params) : Obj := ⟨.none, none, (.fields ⟨([] : List Value)⟩), ⟨[]⟩⟩
def o_11_73 (P : Params) : Obj := ⟨(.type "code"), none, (.fields ⟨(([(.str "Inexact" 273), (.str "Inexact" 274), (.str "/claim/cut.py" 275), (.int (16) 0), (.int (0) 0), (.int (0) 0), (.int (0) 0), (.int (0) 0), (.ref 71), (.bool false), (.int (181) 0), (.ref 72)] : List Value) ++ ([.none, .none, .none, .none, (.int (276) 0), (.int (16) 0), (.str "/claim/cut.py" 277)] : List Value))⟩), ⟨[]⟩⟩
def o_11_74 (P : Params) : Obj := ⟨(.type "frame"), none, .plain, ⟨[(some (.ref 73)), (some (.ref 3)), (some (.ref 70)), none, (some (.str "tenwhole.signals" 194)), none, (some (.ref 0))]⟩⟩
def o_11_75 (P : Params) : Obj := ⟨(.type "tuple"), none, (.seq ⟨([] : List Value)⟩ 0), ⟨[]⟩⟩
def o_11_76 (P : Params) : Obj := ⟨(.type "dict"), none, (.dict ⟨(([⟨PyData.keyHash P "__module__", (.str "__module__" 278), (.str "tenwhole.signals" 194)⟩, ⟨PyData.keyHash P "__firstlineno__", (.str "__firstlineno__" 282), (.int (16) 281)⟩, ⟨PyData.keyHash P "__static_attributes__", (.str "__static_attributes__" 283), (.ref 75)⟩, ⟨PyData.keyHash P "__doc__", (.str "__doc__" 284), .none⟩] : List DictEntry))⟩ 2), ⟨[]⟩⟩
def o_11_77 (P : Params) : Obj := ⟨(.type "type"), none, (.cls ⟨"Inexact", [(.ref 40)], [(.ref 77), (.ref 40), (.type "ArithmeticError"), (.type "Exception"), (.type "BaseException"), (.type "object")], 76, "Inexact", true, [], ([] : List Value), false, none, false⟩), ⟨[(some (.ref 68)), none, (some (.str "Inexact" 271)), (some (.str "Inexact" 279)), (some (.builtin "ArithmeticError.__new__")), (some (.bool true))]⟩⟩
def o_11_78 (P : Params) : Obj := ⟨(.type "super"), none, (.fields ⟨(([(.ref 77), (.ref 77), (.ref 77)] : List Value))⟩), ⟨[]⟩⟩
def o_11_79 (P : Params) : Obj := ⟨(.type "builtin_function_or_method"), none, (.fields ⟨(([(.builtin "object.__init_subclass__"), (.ref 77)] : List Value))⟩), ⟨[]⟩⟩
def o_11_80 (P : Params) : Obj := ⟨(.type "tuple"), none, (.seq ⟨(([(.ref 40)] : List Value))⟩ 0), ⟨[]⟩⟩
def o_11_81 (P : Params) : Obj := ⟨(.type "builtin_function_or_method"), none, (.fields ⟨(([(.builtin "type.__prepare__"), (.type "type")] : List Value))⟩), ⟨[]⟩⟩
def o_11_82 (P : Params) : Obj := ⟨(.type "dict"), none, (.dict ⟨(([⟨PyData.keyHash P "__module__", (.str "__module__" 294), (.str "tenwhole.signals" 194)⟩, ⟨PyData.keyHash P "__qualname__", (.str "__qualname__" 296), (.str "InvalidOperation" 295)⟩, ⟨PyData.keyHash P "__firstlineno__", (.str "__firstlineno__" 298), (.int (18) 297)⟩, ⟨PyData.keyHash P "__static_attributes__", (.str "__static_attributes__" 299), (.ref 87)⟩] : List DictEntry))⟩ 4), ⟨[]⟩⟩
def o_11_83 (P : Params) : Obj := ⟨(.type "tuple"), none, (.seq ⟨([] : List Value)⟩ 0), ⟨[]⟩⟩
def o_11_84 (P : Params) : Obj := ⟨.none, none, (.fields ⟨([] : List Value)⟩), ⟨[]⟩⟩
def o_11_85 (P : Params) : Obj := ⟨(.type "code"), none, (.fields ⟨(([(.str "InvalidOperation" 289), (.str "InvalidOperation" 290), (.str "/claim/cut.py" 291), (.int (18) 0), (.int (0) 0), (.int (0) 0), (.int (0) 0), (.int (0) 0), (.ref 83), (.bool false), (.int (181) 0), (.ref 84)] : List Value) ++ ([.none, .none, .none, .none, (.int (292) 0), (.int (18) 0), (.str "/claim/cut.py" 293)] : List Value))⟩), ⟨[]⟩⟩
def o_11_86 (P : Params) : Obj := ⟨(.type "frame"), none, .plain, ⟨[(some (.ref 85)), (some (.ref 3)), (some (.ref 82)), none, (some (.str "tenwhole.signals" 194)), none, (some (.ref 0))]⟩⟩
def o_11_87 (P : Params) : Obj := ⟨(.type "tuple"), none, (.seq ⟨([] : List Value)⟩ 0), ⟨[]⟩⟩
def o_11_88 (P : Params) : Obj := ⟨(.type "dict"), none, (.dict ⟨(([⟨PyData.keyHash P "__module__", (.str "__module__" 294), (.str "tenwhole.signals" 194)⟩, ⟨PyData.keyHash P "__firstlineno__", (.str "__firstlineno__" 298), (.int (18) 297)⟩, ⟨PyData.keyHash P "__static_attributes__", (.str "__static_attributes__" 299), (.ref 87)⟩, ⟨PyData.keyHash P "__doc__", (.str "__doc__" 300), .none⟩] : List DictEntry))⟩ 2), ⟨[]⟩⟩
def o_11_89 (P : Params) : Obj := ⟨(.type "type"), none, (.cls ⟨"InvalidOperation", [(.ref 40)], [(.ref 89), (.ref 40), (.type "ArithmeticError"), (.type "Exception"), (.type "BaseException"), (.type "object")], 88, "InvalidOperation", true, [], ([] : List Value), false, none, false⟩), ⟨[(some (.ref 80)), none, (some (.str "InvalidOperation" 287)), (some (.str "InvalidOperation" 295)), (some (.builtin "ArithmeticError.__new__")), (some (.bool true))]⟩⟩
def o_11_90 (P : Params) : Obj := ⟨(.type "super"), none, (.fields ⟨(([(.ref 89), (.ref 89), (.ref 89)] : List Value))⟩), ⟨[]⟩⟩
def o_11_91 (P : Params) : Obj := ⟨(.type "builtin_function_or_method"), none, (.fields ⟨(([(.builtin "object.__init_subclass__"), (.ref 89)] : List Value))⟩), ⟨[]⟩⟩
def o_11_92 (P : Params) : Obj := ⟨(.type "tuple"), none, (.seq ⟨(([(.ref 40)] : List Value))⟩ 0), ⟨[]⟩⟩
def o_11_93 (P : Params) : Obj := ⟨(.type "builtin_function_or_method"), none, (.fields ⟨(([(.builtin "type.__prepare__"), (.type "type")] : List Value))⟩), ⟨[]⟩⟩
def o_11_94 (P : Params) : Obj := ⟨(.type "dict"), none, (.dict ⟨(([⟨PyData.keyHash P "__module__", (.str "__module__" 310), (.str "tenwhole.signals" 194)⟩, ⟨PyData.keyHash P "__qualname__", (.str "__qualname__" 312), (.str "Overflow" 311)⟩, ⟨PyData.keyHash P "__firstlineno__", (.str "__firstlineno__" 314), (.int (20) 313)⟩, ⟨PyData.keyHash P "__static_attributes__", (.str "__static_attributes__" 315), (.ref 99)⟩] : List DictEntry))⟩ 4), ⟨[]⟩⟩
def o_11_95 (P : Params) : Obj := ⟨(.type "tuple"), none, (.seq ⟨([] : List Value)⟩ 0), ⟨[]⟩⟩
def o_11_96 (P : Params) : Obj := ⟨.none, none, (.fields ⟨([] : List Value)⟩), ⟨[]⟩⟩
def o_11_97 (P : Params) : Obj := ⟨(.type "code"), none, (.fields ⟨(([(.str "Overflow" 305), (.str "Overflow" 306), (.str "/claim/cut.py" 307), (.int (20) 0), (.int (0) 0), (.int (0) 0), (.int (0) 0), (.int (0) 0), (.ref 95), (.bool false), (.int (181) 0), (.ref 96)] : List Value) ++ ([.none, .none, .none, .none, (.int (308) 0), (.int (20) 0), (.str "/claim/cut.py" 309)] : List Value))⟩), ⟨[]⟩⟩
def o_11_98 (P : Params) : Obj := ⟨(.type "frame"), none, .plain, ⟨[(some (.ref 97)), (some (.ref 3)), (some (.ref 94)), none, (some (.str "tenwhole.signals" 194)), none, (some (.ref 0))]⟩⟩
def o_11_99 (P : Params) : Obj := ⟨(.type "tuple"), none, (.seq ⟨([] : List Value)⟩ 0), ⟨[]⟩⟩
def o_11_100 (P : Params) : Obj := ⟨(.type "dict"), none, (.dict ⟨(([⟨PyData.keyHash P "__module__", (.str "__module__" 310), (.str "tenwhole.signals" 194)⟩, ⟨PyData.keyHash P "__firstlineno__", (.str "__firstlineno__" 314), (.int (20) 313)⟩, ⟨PyData.keyHash P "__static_attributes__", (.str "__static_attributes__" 315), (.ref 99)⟩, ⟨PyData.keyHash P "__doc__", (.str "__doc__" 316), .none⟩] : List DictEntry))⟩ 2), ⟨[]⟩⟩
def o_11_101 (P : Params) : Obj := ⟨(.type "type"), none, (.cls ⟨"Overflow", [(.ref 40)], [(.ref 101), (.ref 40), (.type "ArithmeticError"), (.type "Exception"), (.type "BaseException"), (.type "object")], 100, "Overflow", true, [], ([] : List Value), false, none, false⟩), ⟨[(some (.ref 92)), none, (some (.str "Overflow" 303)), (some (.str "Overflow" 311)), (some (.builtin "ArithmeticError.__new__")), (some (.bool true))]⟩⟩
def o_11_102 (P : Params) : Obj := ⟨(.type "super"), none, (.fields ⟨(([(.ref 101), (.ref 101), (.ref 101)] : List Value))⟩), ⟨[]⟩⟩
def o_11_103 (P : Params) : Obj := ⟨(.type "builtin_function_or_method"), none, (.fields ⟨(([(.builtin "object.__init_subclass__"), (.ref 101)] : List Value))⟩), ⟨[]⟩⟩
def o_11_104 (P : Params) : Obj := ⟨(.type "tuple"), none, (.seq ⟨(([(.ref 40)] : List Value))⟩ 0), ⟨[]⟩⟩
def o_11_105 (P : Params) : Obj := ⟨(.type "builtin_function_or_method"), none, (.fields ⟨(([(.builtin "type.__prepare__"), (.type "type")] : List Value))⟩), ⟨[]⟩⟩
def o_11_106 (P : Params) : Obj := ⟨(.type "dict"), none, (.dict ⟨(([⟨PyData.keyHash P "__module__", (.str "__module__" 326), (.str "tenwhole.signals" 194)⟩, ⟨PyData.keyHash P "__qualname__", (.str "__qualname__" 328), (.str "Rounded" 327)⟩, ⟨PyData.keyHash P "__firstlineno__", (.str "__firstlineno__" 330), (.int (22) 329)⟩, ⟨PyData.keyHash P "__static_attributes__", (.str "__static_attributes__" 331), (.ref 111)⟩] : List DictEntry))⟩ 4), ⟨[]⟩⟩
def o_11_107 (P : Params) : Obj := ⟨(.type "tuple"), none, (.seq ⟨([] : List Value)⟩ 0), ⟨[]⟩⟩
def o_11_108 (P : Params) : Obj := ⟨.none, none, (.fields ⟨([] : List Value)⟩), ⟨[]⟩⟩
def o_11_109 (P : Params) : Obj := ⟨(.type "code"), none, (.fields ⟨(([(.str "Rounded" 321), (.str "Rounded" 322), (.str "/claim/cut.py" 323), (.int (22) 0), (.int (0) 0), (.int (0) 0), (.int (0) 0), (.int (0) 0), (.ref 107), (.bool false), (.int (181) 0), (.ref 108)] : List Value) ++ ([.none, .none, .none, .none, (.int (324) 0), (.int (22) 0), (.str "/claim/cut.py" 325)] : List Value))⟩), ⟨[]⟩⟩
def o_11_110 (P : Params) : Obj := ⟨(.type "frame"), none, .plain, ⟨[(some (.ref 109)), (some (.ref 3)), (some (.ref 106)), none, (some (.str "tenwhole.signals" 194)), none, (some (.ref 0))]⟩⟩
def o_11_111 (P : Params) : Obj := ⟨(.type "tuple"), none, (.seq ⟨([] : List Value)⟩ 0), ⟨[]⟩⟩
def o_11_112 (P : Params) : Obj := ⟨(.type "dict"), none, (.dict ⟨(([⟨PyData.keyHash P "__module__", (.str "__module__" 326), (.str "tenwhole.signals" 194)⟩, ⟨PyData.keyHash P "__firstlineno__", (.str "__firstlineno__" 330), (.int (22) 329)⟩, ⟨PyData.keyHash P "__static_attributes__", (.str "__static_attributes__" 331), (.ref 111)⟩, ⟨PyData.keyHash P "__doc__", (.str "__doc__" 332), .none⟩] : List DictEntry))⟩ 2), ⟨[]⟩⟩
def o_11_113 (P : Params) : Obj := ⟨(.type "type"), none, (.cls ⟨"Rounded", [(.ref 40)], [(.ref 113), (.ref 40), (.type "ArithmeticError"), (.type "Exception"), (.type "BaseException"), (.type "object")], 112, "Rounded", true, [], ([] : List Value), false, none, false⟩), ⟨[(some (.ref 104)), none, (some (.str "Rounded" 319)), (some (.str "Rounded" 327)), (some (.builtin "ArithmeticError.__new__")), (some (.bool true))]⟩⟩
def o_11_114 (P : Params) : Obj := ⟨(.type "super"), none, (.fields ⟨(([(.ref 113), (.ref 113), (.ref 113)] : List Value))⟩), ⟨[]⟩⟩
def o_11_115 (P : Params) : Obj := ⟨(.type "builtin_function_or_method"), none, (.fields ⟨(([(.builtin "object.__init_subclass__"), (.ref 113)] : List Value))⟩), ⟨[]⟩⟩
def l_11 (P : Params) : List (Nat × Obj) := ([(2, o_11_2 P), (3, o_11_3 P), (12, o_11_12 P), (15, o_11_15 P), (16, o_11_16 P), (17, o_11_17 P), (18, o_11_18 P), (19, o_11_19 P), (20, o_11_20 P), (21, o_11_21 P), (22, o_11_22 P), (23, o_11_23 P), (24, o_11_24 P), (25, o_11_25 P), (26, o_11_26 P), (27, o_11_27 P), (28, o_11_28 P), (29, o_11_29 P), (30, o_11_30 P), (31, o_11_31 P), (32, o_11_32 P), (33, o_11_33 P), (34, o_11_34 P), (35, o_11_35 P), (36, o_11_36 P)] : List (Nat × Obj)) ++ ([(37, o_11_37 P), (38, o_11_38 P), (39, o_11_39 P), (40, o_11_40 P), (41, o_11_41 P), (42, o_11_42 P), (43, o_11_43 P), (44, o_11_44 P), (45, o_11_45 P), (46, o_11_46 P), (47, o_11_47 P), (48, o_11_48 P), (49, o_11_49 P), (50, o_11_50 P), (51, o_11_51 P), (52, o_11_52 P), (53, o_11_53 P), (54, o_11_54 P), (55, o_11_55 P), (56, o_11_56 P), (57, o_11_57 P), (58, o_11_58 P), (59, o_11_59 P), (60, o_11_60 P), (61, o_11_61 P)] : List (Nat × Obj)) ++ ([(62, o_11_62 P), (63, o_11_63 P), (64, o_11_64 P), (65, o_11_65 P), (66, o_11_66 P), (67, o_11_67 P), (68, o_11_68 P), (69, o_11_69 P), (70, o_11_70 P), (71, o_11_71 P), (72, o_11_72 P), (73, o_11_73 P), (74, o_11_74 P), (75, o_11_75 P), (76, o_11_76 P), (77, o_11_77 P), (78, o_11_78 P), (79, o_11_79 P), (80, o_11_80 P), (81, o_11_81 P), (82, o_11_82 P), (83, o_11_83 P), (84, o_11_84 P), (85, o_11_85 P), (86, o_11_86 P)] : List (Nat × Obj)) ++ ([(87, o_11_87 P), (88, o_11_88 P), (89, o_11_89 P), (90, o_11_90 P), (91, o_11_91 P), (92, o_11_92 P), (93, o_11_93 P), (94, o_11_94 P), (95, o_11_95 P), (96, o_11_96 P), (97, o_11_97 P), (98, o_11_98 P), (99, o_11_99 P), (100, o_11_100 P), (101, o_11_101 P), (102, o_11_102 P), (103, o_11_103 P), (104, o_11_104 P), (105, o_11_105 P), (106, o_11_106 P), (107, o_11_107 P), (108, o_11_108 P), (109, o_11_109 P), (110, o_11_110 P), (111, o_11_111 P)] : List (Nat × Obj)) ++ ([(112, o_11_112 P), (113, o_11_113 P), (114, o_11_114 P), (115, o_11_115 P)] : List (Nat × Obj))
def t_11 (P : Params) : BT := (insAll (l_11 P) (t_block P)).getD .nil
def S_11 (w : World) (os : OsState) : SharedT := ⟨t_11 w.params, 116, {}, #[], ⟨0, 0, 0, 0⟩, 335, os⟩
def o_18_3 (P : Params) : Obj := ⟨(.type "dict"), none, (.dict ⟨(([⟨PyData.keyHash P "__name__", (.str "__name__" 165), (.str "tenwhole.signals" 194)⟩, ⟨PyData.keyHash P "__doc__", (.str "__doc__" 166), .none⟩, ⟨PyData.keyHash P "__package__", (.str "__package__" 167), .none⟩, ⟨PyData.keyHash P "__loader__", (.str "__loader__" 168), (.builtin "__main__.__loader__#opaque")⟩, ⟨PyData.keyHash P "__spec__", (.str "__spec__" 169), .none⟩, ⟨PyData.keyHash P "__annotations__", (.str "__annotations__" 170), (.ref 6)⟩, ⟨PyData.keyHash P "__builtins__", (.str "__builtins__" 171), (.ref 4)⟩, ⟨PyData.keyHash P "__file__", (.str "__file__" 173), (.str "/claim/cut.py" 172)⟩, ⟨PyData.keyHash P "__cached__", (.str "__cached__" 174), .none⟩, ⟨PyData.keyHash P "_wall", (.str "_wall" 193), (.ref 21)⟩, ⟨PyData.keyHash P "ORDER", (.str "ORDER" 204), (.ref 22)⟩, ⟨PyData.keyHash P "INVALID", (.str "INVALID" 209), (.ref 23)⟩] : List DictEntry) ++ ([⟨PyData.keyHash P "TenSignal", (.str "TenSignal" 238), (.ref 40)⟩, ⟨PyData.keyHash P "Clamped", (.str "Clamped" 254), (.ref 53)⟩, ⟨PyData.keyHash P "DivisionByZero", (.str "DivisionByZero" 270), (.ref 65)⟩, ⟨PyData.keyHash P "Inexact", (.str "Inexact" 286), (.ref 77)⟩, ⟨PyData.keyHash P "InvalidOperation", (.str "InvalidOperation" 302), (.ref 89)⟩, ⟨PyData.keyHash P "Overflow", (.str "Overflow" 318), (.ref 101)⟩, ⟨PyData.keyHash P "Rounded", (.str "Rounded" 334), (.ref 113)⟩, ⟨PyData.keyHash P "Subnormal", (.str "Subnormal" 350), (.ref 125)⟩, ⟨PyData.keyHash P "Underflow", (.str "Underflow" 366), (.ref 137)⟩, ⟨PyData.keyHash P "TenError", (.str "TenError" 384), (.ref 149)⟩, ⟨PyData.keyHash P "NoOperand", (.str "NoOperand" 409), (.ref 169)⟩, ⟨PyData.keyHash P "NoDecimal", (.str "NoDecimal" 434), (.ref 188)⟩] : List DictEntry) ++ ([⟨PyData.keyHash P "NoContext", (.str "NoContext" 459), (.ref 207)⟩, ⟨PyData.keyHash P "NoName", (.str "NoName" 484), (.ref 226)⟩] : List DictEntry))⟩ 26), ⟨[]⟩⟩
def o_18_12 (P : Params) : Obj := ⟨.none, none, (.fields ⟨(([(.int (1) 0), (.int (0) 0), (.ref 20), (.int (7) 0), (.int (0) 0), (.ref 29), (.int (12) 0), (.int (0) 0), (.ref 49), (.int (14) 0), (.int (0) 0), (.ref 61)] : List Value) ++ ([(.int (16) 0), (.int (0) 0), (.ref 73), (.int (18) 0), (.int (0) 0), (.ref 85), (.int (20) 0), (.int (0) 0), (.ref 97), (.int (22) 0), (.int (0) 0), (.ref 109)] : List Value) ++ ([(.int (24) 0), (.int (0) 0), (.ref 121), (.int (26) 0), (.int (0) 0), (.ref 133), (.int (28) 0), (.int (0) 0), (.ref 145), (.int (30) 0), (.int (0) 0), (.ref 158)] : List Value) ++ ([(.int (35) 0), (.int (0) 0), (.ref 177), (.int (40) 0), (.int (0) 0), (.ref 196), (.int (45) 0), (.int (0) 0), (.ref 215)] : List Value))⟩), ⟨[]⟩⟩
def o_18_40 (P : Params) : Obj := ⟨(.type "type"), none, (.cls ⟨"TenSignal", [(.type "ArithmeticError")], [(.ref 40), (.type "ArithmeticError"), (.type "Exception"), (.type "BaseException"), (.type "object")], 39, "TenSignal", true, [], (([(.ref 53), (.ref 65), (.ref 77), (.ref 89), (.ref 101), (.ref 113), (.ref 125), (.ref 137)] : List Value)), false, none, false⟩), ⟨[(some (.ref 24)), none, (some (.str "TenSignal" 210)), (some (.str "TenSignal" 218)), (some (.builtin "ArithmeticError.__new__")), (some (.bool true))]⟩⟩
def o_18_116 (P : Params) : Obj := ⟨(.type "tuple"), none, (.seq ⟨(([(.ref 40)] : List Value))⟩ 0), ⟨[]⟩⟩
def o_18_117 (P : Params) : Obj := ⟨(.type "builtin_function_or_method"), none, (.fields ⟨(([(.builtin "type.__prepare__"), (.type "type")] : List Value))⟩), ⟨[]⟩⟩
def o_18_118 (P : Params) : Obj := ⟨(.type "dict"), none, (.dict ⟨(([⟨PyData.keyHash P "__module__", (.str "__module__" 342), (.str "tenwhole.signals" 194)⟩, ⟨PyData.keyHash P "__qualname__", (.str "__qualname__" 344), (.str "Subnormal" 343)⟩, ⟨PyData.keyHash P "__firstlineno__", (.str "__firstlineno__" 346), (.int (24) 345)⟩, ⟨PyData.keyHash P "__static_attributes__", (.str "__static_attributes__" 347), (.ref 123)⟩] : List DictEntry))⟩ 4), ⟨[]⟩⟩
def o_18_119 (P : Params) : Obj := ⟨(.type "tuple"), none, (.seq ⟨([] : List Value)⟩ 0), ⟨[]⟩⟩
def o_18_120 (P : Params) : Obj := ⟨.none, none, (.fields ⟨([] : List Value)⟩), ⟨[]⟩⟩
def o_18_121 (P : Params) : Obj := ⟨(.type "code"), none, (.fields ⟨(([(.str "Subnormal" 337), (.str "Subnormal" 338), (.str "/claim/cut.py" 339), (.int (24) 0), (.int (0) 0), (.int (0) 0), (.int (0) 0), (.int (0) 0), (.ref 119), (.bool false), (.int (181) 0), (.ref 120)] : List Value) ++ ([.none, .none, .none, .none, (.int (340) 0), (.int (24) 0), (.str "/claim/cut.py" 341)] : List Value))⟩), ⟨[]⟩⟩
def o_18_122 (P : Params) : Obj := ⟨(.type "frame"), none, .plain, ⟨[(some (.ref 121)), (some (.ref 3)), (some (.ref 118)), none, (some (.str "tenwhole.signals" 194)), none, (some (.ref 0))]⟩⟩
def o_18_123 (P : Params) : Obj := ⟨(.type "tuple"), none, (.seq ⟨([] : List Value)⟩ 0), ⟨[]⟩⟩
def o_18_124 (P : Params) : Obj := ⟨(.type "dict"), none, (.dict ⟨(([⟨PyData.keyHash P "__module__", (.str "__module__" 342), (.str "tenwhole.signals" 194)⟩, ⟨PyData.keyHash P "__firstlineno__", (.str "__firstlineno__" 346), (.int (24) 345)⟩, ⟨PyData.keyHash P "__static_attributes__", (.str "__static_attributes__" 347), (.ref 123)⟩, ⟨PyData.keyHash P "__doc__", (.str "__doc__" 348), .none⟩] : List DictEntry))⟩ 2), ⟨[]⟩⟩
def o_18_125 (P : Params) : Obj := ⟨(.type "type"), none, (.cls ⟨"Subnormal", [(.ref 40)], [(.ref 125), (.ref 40), (.type "ArithmeticError"), (.type "Exception"), (.type "BaseException"), (.type "object")], 124, "Subnormal", true, [], ([] : List Value), false, none, false⟩), ⟨[(some (.ref 116)), none, (some (.str "Subnormal" 335)), (some (.str "Subnormal" 343)), (some (.builtin "ArithmeticError.__new__")), (some (.bool true))]⟩⟩
def o_18_126 (P : Params) : Obj := ⟨(.type "super"), none, (.fields ⟨(([(.ref 125), (.ref 125), (.ref 125)] : List Value))⟩), ⟨[]⟩⟩
def o_18_127 (P : Params) : Obj := ⟨(.type "builtin_function_or_method"), none, (.fields ⟨(([(.builtin "object.__init_subclass__"), (.ref 125)] : List Value))⟩), ⟨[]⟩⟩
def o_18_128 (P : Params) : Obj := ⟨(.type "tuple"), none, (.seq ⟨(([(.ref 40)] : List Value))⟩ 0), ⟨[]⟩⟩
def o_18_129 (P : Params) : Obj := ⟨(.type "builtin_function_or_method"), none, (.fields ⟨(([(.builtin "type.__prepare__"), (.type "type")] : List Value))⟩), ⟨[]⟩⟩
def o_18_130 (P : Params) : Obj := ⟨(.type "dict"), none, (.dict ⟨(([⟨PyData.keyHash P "__module__", (.str "__module__" 358), (.str "tenwhole.signals" 194)⟩, ⟨PyData.keyHash P "__qualname__", (.str "__qualname__" 360), (.str "Underflow" 359)⟩, ⟨PyData.keyHash P "__firstlineno__", (.str "__firstlineno__" 362), (.int (26) 361)⟩, ⟨PyData.keyHash P "__static_attributes__", (.str "__static_attributes__" 363), (.ref 135)⟩] : List DictEntry))⟩ 4), ⟨[]⟩⟩
def o_18_131 (P : Params) : Obj := ⟨(.type "tuple"), none, (.seq ⟨([] : List Value)⟩ 0), ⟨[]⟩⟩
def o_18_132 (P : Params) : Obj := ⟨.none, none, (.fields ⟨([] : List Value)⟩), ⟨[]⟩⟩
def o_18_133 (P : Params) : Obj := ⟨(.type "code"), none, (.fields ⟨(([(.str "Underflow" 353), (.str "Underflow" 354), (.str "/claim/cut.py" 355), (.int (26) 0), (.int (0) 0), (.int (0) 0), (.int (0) 0), (.int (0) 0), (.ref 131), (.bool false), (.int (181) 0), (.ref 132)] : List Value) ++ ([.none, .none, .none, .none, (.int (356) 0), (.int (26) 0), (.str "/claim/cut.py" 357)] : List Value))⟩), ⟨[]⟩⟩
def o_18_134 (P : Params) : Obj := ⟨(.type "frame"), none, .plain, ⟨[(some (.ref 133)), (some (.ref 3)), (some (.ref 130)), none, (some (.str "tenwhole.signals" 194)), none, (some (.ref 0))]⟩⟩
def o_18_135 (P : Params) : Obj := ⟨(.type "tuple"), none, (.seq ⟨([] : List Value)⟩ 0), ⟨[]⟩⟩
def o_18_136 (P : Params) : Obj := ⟨(.type "dict"), none, (.dict ⟨(([⟨PyData.keyHash P "__module__", (.str "__module__" 358), (.str "tenwhole.signals" 194)⟩, ⟨PyData.keyHash P "__firstlineno__", (.str "__firstlineno__" 362), (.int (26) 361)⟩, ⟨PyData.keyHash P "__static_attributes__", (.str "__static_attributes__" 363), (.ref 135)⟩, ⟨PyData.keyHash P "__doc__", (.str "__doc__" 364), .none⟩] : List DictEntry))⟩ 2), ⟨[]⟩⟩
def o_18_137 (P : Params) : Obj := ⟨(.type "type"), none, (.cls ⟨"Underflow", [(.ref 40)], [(.ref 137), (.ref 40), (.type "ArithmeticError"), (.type "Exception"), (.type "BaseException"), (.type "object")], 136, "Underflow", true, [], ([] : List Value), false, none, false⟩), ⟨[(some (.ref 128)), none, (some (.str "Underflow" 351)), (some (.str "Underflow" 359)), (some (.builtin "ArithmeticError.__new__")), (some (.bool true))]⟩⟩
def o_18_138 (P : Params) : Obj := ⟨(.type "super"), none, (.fields ⟨(([(.ref 137), (.ref 137), (.ref 137)] : List Value))⟩), ⟨[]⟩⟩
def o_18_139 (P : Params) : Obj := ⟨(.type "builtin_function_or_method"), none, (.fields ⟨(([(.builtin "object.__init_subclass__"), (.ref 137)] : List Value))⟩), ⟨[]⟩⟩
def o_18_140 (P : Params) : Obj := ⟨(.type "tuple"), none, (.seq ⟨(([(.type "ValueError")] : List Value))⟩ 0), ⟨[]⟩⟩
def o_18_141 (P : Params) : Obj := ⟨(.type "builtin_function_or_method"), none, (.fields ⟨(([(.builtin "type.__prepare__"), (.type "type")] : List Value))⟩), ⟨[]⟩⟩
def o_18_142 (P : Params) : Obj := ⟨(.type "dict"), none, (.dict ⟨(([⟨PyData.keyHash P "__module__", (.str "__module__" 374), (.str "tenwhole.signals" 194)⟩, ⟨PyData.keyHash P "__qualname__", (.str "__qualname__" 376), (.str "TenError" 375)⟩, ⟨PyData.keyHash P "__firstlineno__", (.str "__firstlineno__" 378), (.int (28) 377)⟩, ⟨PyData.keyHash P "__static_attributes__", (.str "__static_attributes__" 379), (.ref 147)⟩] : List DictEntry))⟩ 4), ⟨[]⟩⟩
def o_18_143 (P : Params) : Obj := ⟨(.type "tuple"), none, (.seq ⟨([] : List Value)⟩ 0), ⟨[]⟩⟩
def o_18_144 (P : Params) : Obj := ⟨.none, none, (.fields ⟨([] : List Value)⟩), ⟨[]⟩⟩
def o_18_145 (P : Params) : Obj := ⟨(.type "code"), none, (.fields ⟨(([(.str "TenError" 369), (.str "TenError" 370), (.str "/claim/cut.py" 371), (.int (28) 0), (.int (0) 0), (.int (0) 0), (.int (0) 0), (.int (0) 0), (.ref 143), (.bool false), (.int (181) 0), (.ref 144)] : List Value) ++ ([.none, .none, .none, .none, (.int (372) 0), (.int (28) 0), (.str "/claim/cut.py" 373)] : List Value))⟩), ⟨[]⟩⟩
def o_18_146 (P : Params) : Obj := ⟨(.type "frame"), none, .plain, ⟨[(some (.ref 145)), (some (.ref 3)), (some (.ref 142)), none, (some (.str "tenwhole.signals" 194)), none, (some (.ref 0))]⟩⟩
def o_18_147 (P : Params) : Obj := ⟨(.type "tuple"), none, (.seq ⟨([] : List Value)⟩ 0), ⟨[]⟩⟩
def o_18_148 (P : Params) : Obj := ⟨(.type "dict"), none, (.dict ⟨(([⟨PyData.keyHash P "__module__", (.str "__module__" 374), (.str "tenwhole.signals" 194)⟩, ⟨PyData.keyHash P "__firstlineno__", (.str "__firstlineno__" 378), (.int (28) 377)⟩, ⟨PyData.keyHash P "__static_attributes__", (.str "__static_attributes__" 379), (.ref 147)⟩, ⟨PyData.keyHash P "__weakref__", (.str "__weakref__" 381), (.ref 150)⟩, ⟨PyData.keyHash P "__doc__", (.str "__doc__" 382), .none⟩] : List DictEntry))⟩ 3), ⟨[]⟩⟩
def o_18_149 (P : Params) : Obj := ⟨(.type "type"), none, (.cls ⟨"TenError", [(.type "ValueError")], [(.ref 149), (.type "ValueError"), (.type "Exception"), (.type "BaseException"), (.type "object")], 148, "TenError", true, [], (([(.ref 169), (.ref 188), (.ref 207), (.ref 226)] : List Value)), false, none, false⟩), ⟨[(some (.ref 140)), none, (some (.str "TenError" 367)), (some (.str "TenError" 375)), (some (.builtin "ValueError.__new__")), (some (.bool true))]⟩⟩
def o_18_150 (P : Params) : Obj := ⟨(.type "getset_descriptor"), none, (.fields ⟨(([(.str "__weakref__" 380), (.ref 149), (.builtin "ExceptionGroup.__weakref__"), .none] : List Value))⟩), ⟨[]⟩⟩
def o_18_151 (P : Params) : Obj := ⟨(.type "super"), none, (.fields ⟨(([(.ref 149), (.ref 149), (.ref 149)] : List Value))⟩), ⟨[]⟩⟩
def o_18_152 (P : Params) : Obj := ⟨(.type "builtin_function_or_method"), none, (.fields ⟨(([(.builtin "object.__init_subclass__"), (.ref 149)] : List Value))⟩), ⟨[]⟩⟩
def o_18_153 (P : Params) : Obj := ⟨(.type "tuple"), none, (.seq ⟨(([(.ref 149)] : List Value))⟩ 0), ⟨[]⟩⟩
def o_18_154 (P : Params) : Obj := ⟨(.type "builtin_function_or_method"), none, (.fields ⟨(([(.builtin "type.__prepare__"), (.type "type")] : List Value))⟩), ⟨[]⟩⟩
def o_18_155 (P : Params) : Obj := ⟨(.type "dict"), none, (.dict ⟨(([⟨PyData.keyHash P "__module__", (.str "__module__" 392), (.str "tenwhole.signals" 194)⟩, ⟨PyData.keyHash P "__qualname__", (.str "__qualname__" 394), (.str "NoOperand" 393)⟩, ⟨PyData.keyHash P "__firstlineno__", (.str "__firstlineno__" 396), (.int (30) 395)⟩, ⟨PyData.keyHash P "__init__", (.str "__init__" 404), (.ref 166)⟩, ⟨PyData.keyHash P "__static_attributes__", (.str "__static_attributes__" 406), (.ref 167)⟩] : List DictEntry))⟩ 5), ⟨[]⟩⟩
def o_18_156 (P : Params) : Obj := ⟨(.type "tuple"), none, (.seq ⟨([] : List Value)⟩ 0), ⟨[]⟩⟩
def o_18_157 (P : Params) : Obj := ⟨.none, none, (.fields ⟨(([(.int (32) 0), (.int (4) 0), (.ref 165)] : List Value))⟩), ⟨[]⟩⟩
def o_18_158 (P : Params) : Obj := ⟨(.type "code"), none, (.fields ⟨(([(.str "NoOperand" 387), (.str "NoOperand" 388), (.str "/claim/cut.py" 389), (.int (30) 0), (.int (0) 0), (.int (0) 0), (.int (0) 0), (.int (0) 0), (.ref 156), (.bool false), (.int (181) 0), (.ref 157)] : List Value) ++ ([.none, .none, .none, .none, (.int (390) 0), (.int (30) 0), (.str "/claim/cut.py" 391)] : List Value))⟩), ⟨[]⟩⟩
def o_18_159 (P : Params) : Obj := ⟨(.type "frame"), none, .plain, ⟨[(some (.ref 158)), (some (.ref 3)), (some (.ref 155)), none, (some (.str "tenwhole.signals" 194)), none, (some (.ref 0))]⟩⟩
def o_18_160 (P : Params) : Obj := ⟨(.type "tuple"), none, (.seq ⟨([] : List Value)⟩ 0), ⟨[]⟩⟩
def o_18_161 (P : Params) : Obj := ⟨.none, none, (.fields ⟨([] : List Value)⟩), ⟨[]⟩⟩
def o_18_162 (P : Params) : Obj := ⟨(.type "tuple"), none, (.seq ⟨(([(.str "self" 400), (.str "operand" 401)] : List Value))⟩ 0), ⟨[]⟩⟩
def o_18_163 (P : Params) : Obj := ⟨(.type "tuple"), none, (.seq ⟨([] : List Value)⟩ 0), ⟨[]⟩⟩
def o_18_164 (P : Params) : Obj := ⟨.none, none, (.func ⟨"__init__", "NoOperand.__init__", defArgs (inClass (top 14) 0), .stmts (defBody (inClass (top 14) 0)), defScope (inClass (top 14) 0), 0, [], .none, .none, .none, .none, none, .none, .none, 0⟩), ⟨[]⟩⟩
def o_18_165 (P : Params) : Obj := ⟨(.type "code"), none, (.fields ⟨(([(.str "__init__" 397), (.str "NoOperand.__init__" 398), (.str "/claim/cut.py" 399), (.int (32) 0), (.int (2) 0), (.int (0) 0), (.int (0) 0), (.int (3) 0), (.ref 160), (.bool true), (.int (181) 0), (.ref 161)] : List Value) ++ ([.none, (.ref 162), (.ref 163), (.ref 164), (.int (402) 0), (.int (32) 0), (.str "/claim/cut.py" 403)] : List Value))⟩), ⟨[]⟩⟩
def o_18_166 (P : Params) : Obj := ⟨(.type "function"), none, (.func ⟨"__init__", "NoOperand.__init__", defArgs (inClass (top 14) 0), .stmts (defBody (inClass (top 14) 0)), defScope (inClass (top 14) 0), 3, [], .none, .none, .none, (.str "tenwhole.signals" 194), none, (.ref 165), .none, 0⟩), ⟨[]⟩⟩
def o_18_167 (P : Params) : Obj := ⟨(.type "tuple"), none, (.seq ⟨(([(.str "operand" 405)] : List Value))⟩ 0), ⟨[]⟩⟩
def o_18_168 (P : Params) : Obj := ⟨(.type "dict"), none, (.dict ⟨(([⟨PyData.keyHash P "__module__", (.str "__module__" 392), (.str "tenwhole.signals" 194)⟩, ⟨PyData.keyHash P "__firstlineno__", (.str "__firstlineno__" 396), (.int (30) 395)⟩, ⟨PyData.keyHash P "__init__", (.str "__init__" 404), (.ref 166)⟩, ⟨PyData.keyHash P "__static_attributes__", (.str "__static_attributes__" 406), (.ref 167)⟩, ⟨PyData.keyHash P "__doc__", (.str "__doc__" 407), .none⟩] : List DictEntry))⟩ 2), ⟨[]⟩⟩
def o_18_169 (P : Params) : Obj := ⟨(.type "type"), none, (.cls ⟨"NoOperand", [(.ref 149)], [(.ref 169), (.ref 149), (.type "ValueError"), (.type "Exception"), (.type "BaseException"), (.type "object")], 168, "NoOperand", true, [], ([] : List Value), false, none, false⟩), ⟨[(some (.ref 153)), none, (some (.str "NoOperand" 385)), (some (.str "NoOperand" 393)), (some (.builtin "ValueError.__new__")), (some (.bool true))]⟩⟩
def o_18_170 (P : Params) : Obj := ⟨(.type "super"), none, (.fields ⟨(([(.ref 169), (.ref 169), (.ref 169)] : List Value))⟩), ⟨[]⟩⟩
def o_18_171 (P : Params) : Obj := ⟨(.type "builtin_function_or_method"), none, (.fields ⟨(([(.builtin "object.__init_subclass__"), (.ref 169)] : List Value))⟩), ⟨[]⟩⟩
def o_18_172 (P : Params) : Obj := ⟨(.type "tuple"), none, (.seq ⟨(([(.ref 149)] : List Value))⟩ 0), ⟨[]⟩⟩
def o_18_173 (P : Params) : Obj := ⟨(.type "builtin_function_or_method"), none, (.fields ⟨(([(.builtin "type.__prepare__"), (.type "type")] : List Value))⟩), ⟨[]⟩⟩
def o_18_174 (P : Params) : Obj := ⟨(.type "dict"), none, (.dict ⟨(([⟨PyData.keyHash P "__module__", (.str "__module__" 417), (.str "tenwhole.signals" 194)⟩, ⟨PyData.keyHash P "__qualname__", (.str "__qualname__" 419), (.str "NoDecimal" 418)⟩, ⟨PyData.keyHash P "__firstlineno__", (.str "__firstlineno__" 421), (.int (35) 420)⟩, ⟨PyData.keyHash P "__init__", (.str "__init__" 429), (.ref 185)⟩, ⟨PyData.keyHash P "__static_attributes__", (.str "__static_attributes__" 431), (.ref 186)⟩] : List DictEntry))⟩ 5), ⟨[]⟩⟩
def o_18_175 (P : Params) : Obj := ⟨(.type "tuple"), none, (.seq ⟨([] : List Value)⟩ 0), ⟨[]⟩⟩
def o_18_176 (P : Params) : Obj := ⟨.none, none, (.fields ⟨(([(.int (37) 0), (.int (4) 0), (.ref 184)] : List Value))⟩), ⟨[]⟩⟩
def o_18_177 (P : Params) : Obj := ⟨(.type "code"), none, (.fields ⟨(([(.str "NoDecimal" 412), (.str "NoDecimal" 413), (.str "/claim/cut.py" 414), (.int (35) 0), (.int (0) 0), (.int (0) 0), (.int (0) 0), (.int (0) 0), (.ref 175), (.bool false), (.int (181) 0), (.ref 176)] : List Value) ++ ([.none, .none, .none, .none, (.int (415) 0), (.int (35) 0), (.str "/claim/cut.py" 416)] : List Value))⟩), ⟨[]⟩⟩
def o_18_178 (P : Params) : Obj := ⟨(.type "frame"), none, .plain, ⟨[(some (.ref 177)), (some (.ref 3)), (some (.ref 174)), none, (some (.str "tenwhole.signals" 194)), none, (some (.ref 0))]⟩⟩
def o_18_179 (P : Params) : Obj := ⟨(.type "tuple"), none, (.seq ⟨([] : List Value)⟩ 0), ⟨[]⟩⟩
def o_18_180 (P : Params) : Obj := ⟨.none, none, (.fields ⟨([] : List Value)⟩), ⟨[]⟩⟩
def o_18_181 (P : Params) : Obj := ⟨(.type "tuple"), none, (.seq ⟨(([(.str "self" 425), (.str "part" 426)] : List Value))⟩ 0), ⟨[]⟩⟩
def o_18_182 (P : Params) : Obj := ⟨(.type "tuple"), none, (.seq ⟨([] : List Value)⟩ 0), ⟨[]⟩⟩
def o_18_183 (P : Params) : Obj := ⟨.none, none, (.func ⟨"__init__", "NoDecimal.__init__", defArgs (inClass (top 15) 0), .stmts (defBody (inClass (top 15) 0)), defScope (inClass (top 15) 0), 0, [], .none, .none, .none, .none, none, .none, .none, 0⟩), ⟨[]⟩⟩
def o_18_184 (P : Params) : Obj := ⟨(.type "code"), none, (.fields ⟨(([(.str "__init__" 422), (.str "NoDecimal.__init__" 423), (.str "/claim/cut.py" 424), (.int (37) 0), (.int (2) 0), (.int (0) 0), (.int (0) 0), (.int (3) 0), (.ref 179), (.bool true), (.int (181) 0), (.ref 180)] : List Value) ++ ([.none, (.ref 181), (.ref 182), (.ref 183), (.int (427) 0), (.int (37) 0), (.str "/claim/cut.py" 428)] : List Value))⟩), ⟨[]⟩⟩
def o_18_185 (P : Params) : Obj := ⟨(.type "function"), none, (.func ⟨"__init__", "NoDecimal.__init__", defArgs (inClass (top 15) 0), .stmts (defBody (inClass (top 15) 0)), defScope (inClass (top 15) 0), 3, [], .none, .none, .none, (.str "tenwhole.signals" 194), none, (.ref 184), .none, 0⟩), ⟨[]⟩⟩
def o_18_186 (P : Params) : Obj := ⟨(.type "tuple"), none, (.seq ⟨(([(.str "part" 430)] : List Value))⟩ 0), ⟨[]⟩⟩
def o_18_187 (P : Params) : Obj := ⟨(.type "dict"), none, (.dict ⟨(([⟨PyData.keyHash P "__module__", (.str "__module__" 417), (.str "tenwhole.signals" 194)⟩, ⟨PyData.keyHash P "__firstlineno__", (.str "__firstlineno__" 421), (.int (35) 420)⟩, ⟨PyData.keyHash P "__init__", (.str "__init__" 429), (.ref 185)⟩, ⟨PyData.keyHash P "__static_attributes__", (.str "__static_attributes__" 431), (.ref 186)⟩, ⟨PyData.keyHash P "__doc__", (.str "__doc__" 432), .none⟩] : List DictEntry))⟩ 2), ⟨[]⟩⟩
def o_18_188 (P : Params) : Obj := ⟨(.type "type"), none, (.cls ⟨"NoDecimal", [(.ref 149)], [(.ref 188), (.ref 149), (.type "ValueError"), (.type "Exception"), (.type "BaseException"), (.type "object")], 187, "NoDecimal", true, [], ([] : List Value), false, none, false⟩), ⟨[(some (.ref 172)), none, (some (.str "NoDecimal" 410)), (some (.str "NoDecimal" 418)), (some (.builtin "ValueError.__new__")), (some (.bool true))]⟩⟩
def o_18_189 (P : Params) : Obj := ⟨(.type "super"), none, (.fields ⟨(([(.ref 188), (.ref 188), (.ref 188)] : List Value))⟩), ⟨[]⟩⟩
def o_18_190 (P : Params) : Obj := ⟨(.type "builtin_function_or_method"), none, (.fields ⟨(([(.builtin "object.__init_subclass__"), (.ref 188)] : List Value))⟩), ⟨[]⟩⟩
def o_18_191 (P : Params) : Obj := ⟨(.type "tuple"), none, (.seq ⟨(([(.ref 149)] : List Value))⟩ 0), ⟨[]⟩⟩
def o_18_192 (P : Params) : Obj := ⟨(.type "builtin_function_or_method"), none, (.fields ⟨(([(.builtin "type.__prepare__"), (.type "type")] : List Value))⟩), ⟨[]⟩⟩
def o_18_193 (P : Params) : Obj := ⟨(.type "dict"), none, (.dict ⟨(([⟨PyData.keyHash P "__module__", (.str "__module__" 442), (.str "tenwhole.signals" 194)⟩, ⟨PyData.keyHash P "__qualname__", (.str "__qualname__" 444), (.str "NoContext" 443)⟩, ⟨PyData.keyHash P "__firstlineno__", (.str "__firstlineno__" 446), (.int (40) 445)⟩, ⟨PyData.keyHash P "__init__", (.str "__init__" 454), (.ref 204)⟩, ⟨PyData.keyHash P "__static_attributes__", (.str "__static_attributes__" 456), (.ref 205)⟩] : List DictEntry))⟩ 5), ⟨[]⟩⟩
def o_18_194 (P : Params) : Obj := ⟨(.type "tuple"), none, (.seq ⟨([] : List Value)⟩ 0), ⟨[]⟩⟩
def o_18_195 (P : Params) : Obj := ⟨.none, none, (.fields ⟨(([(.int (42) 0), (.int (4) 0), (.ref 203)] : List Value))⟩), ⟨[]⟩⟩
def o_18_196 (P : Params) : Obj := ⟨(.type "code"), none, (.fields ⟨(([(.str "NoContext" 437), (.str "NoContext" 438), (.str "/claim/cut.py" 439), (.int (40) 0), (.int (0) 0), (.int (0) 0), (.int (0) 0), (.int (0) 0), (.ref 194), (.bool false), (.int (181) 0), (.ref 195)] : List Value) ++ ([.none, .none, .none, .none, (.int (440) 0), (.int (40) 0), (.str "/claim/cut.py" 441)] : List Value))⟩), ⟨[]⟩⟩
def o_18_197 (P : Params) : Obj := ⟨(.type "frame"), none, .plain, ⟨[(some (.ref 196)), (some (.ref 3)), (some (.ref 193)), none, (some (.str "tenwhole.signals" 194)), none, (some (.ref 0))]⟩⟩
def o_18_198 (P : Params) : Obj := ⟨(.type "tuple"), none, (.seq ⟨([] : List Value)⟩ 0), ⟨[]⟩⟩
def o_18_199 (P : Params) : Obj := ⟨.none, none, (.fields ⟨([] : List Value)⟩), ⟨[]⟩⟩
def o_18_200 (P : Params) : Obj := ⟨(.type "tuple"), none, (.seq ⟨(([(.str "self" 450), (.str "part" 451)] : List Value))⟩ 0), ⟨[]⟩⟩
def o_18_201 (P : Params) : Obj := ⟨(.type "tuple"), none, (.seq ⟨([] : List Value)⟩ 0), ⟨[]⟩⟩
def o_18_202 (P : Params) : Obj := ⟨.none, none, (.func ⟨"__init__", "NoContext.__init__", defArgs (inClass (top 16) 0), .stmts (defBody (inClass (top 16) 0)), defScope (inClass (top 16) 0), 0, [], .none, .none, .none, .none, none, .none, .none, 0⟩), ⟨[]⟩⟩
def o_18_203 (P : Params) : Obj := ⟨(.type "code"), none, (.fields ⟨(([(.str "__init__" 447), (.str "NoContext.__init__" 448), (.str "/claim/cut.py" 449), (.int (42) 0), (.int (2) 0), (.int (0) 0), (.int (0) 0), (.int (3) 0), (.ref 198), (.bool true), (.int (181) 0), (.ref 199)] : List Value) ++ ([.none, (.ref 200), (.ref 201), (.ref 202), (.int (452) 0), (.int (42) 0), (.str "/claim/cut.py" 453)] : List Value))⟩), ⟨[]⟩⟩
def o_18_204 (P : Params) : Obj := ⟨(.type "function"), none, (.func ⟨"__init__", "NoContext.__init__", defArgs (inClass (top 16) 0), .stmts (defBody (inClass (top 16) 0)), defScope (inClass (top 16) 0), 3, [], .none, .none, .none, (.str "tenwhole.signals" 194), none, (.ref 203), .none, 0⟩), ⟨[]⟩⟩
def o_18_205 (P : Params) : Obj := ⟨(.type "tuple"), none, (.seq ⟨(([(.str "part" 455)] : List Value))⟩ 0), ⟨[]⟩⟩
def o_18_206 (P : Params) : Obj := ⟨(.type "dict"), none, (.dict ⟨(([⟨PyData.keyHash P "__module__", (.str "__module__" 442), (.str "tenwhole.signals" 194)⟩, ⟨PyData.keyHash P "__firstlineno__", (.str "__firstlineno__" 446), (.int (40) 445)⟩, ⟨PyData.keyHash P "__init__", (.str "__init__" 454), (.ref 204)⟩, ⟨PyData.keyHash P "__static_attributes__", (.str "__static_attributes__" 456), (.ref 205)⟩, ⟨PyData.keyHash P "__doc__", (.str "__doc__" 457), .none⟩] : List DictEntry))⟩ 2), ⟨[]⟩⟩
def o_18_207 (P : Params) : Obj := ⟨(.type "type"), none, (.cls ⟨"NoContext", [(.ref 149)], [(.ref 207), (.ref 149), (.type "ValueError"), (.type "Exception"), (.type "BaseException"), (.type "object")], 206, "NoContext", true, [], ([] : List Value), false, none, false⟩), ⟨[(some (.ref 191)), none, (some (.str "NoContext" 435)), (some (.str "NoContext" 443)), (some (.builtin "ValueError.__new__")), (some (.bool true))]⟩⟩
def o_18_208 (P : Params) : Obj := ⟨(.type "super"), none, (.fields ⟨(([(.ref 207), (.ref 207), (.ref 207)] : List Value))⟩), ⟨[]⟩⟩
def o_18_209 (P : Params) : Obj := ⟨(.type "builtin_function_or_method"), none, (.fields ⟨(([(.builtin "object.__init_subclass__"), (.ref 207)] : List Value))⟩), ⟨[]⟩⟩
def o_18_210 (P : Params) : Obj := ⟨(.type "tuple"), none, (.seq ⟨(([(.ref 149)] : List Value))⟩ 0), ⟨[]⟩⟩
def o_18_211 (P : Params) : Obj := ⟨(.type "builtin_function_or_method"), none, (.fields ⟨(([(.builtin "type.__prepare__"), (.type "type")] : List Value))⟩), ⟨[]⟩⟩
def o_18_212 (P : Params) : Obj := ⟨(.type "dict"), none, (.dict ⟨(([⟨PyData.keyHash P "__module__", (.str "__module__" 467), (.str "tenwhole.signals" 194)⟩, ⟨PyData.keyHash P "__qualname__", (.str "__qualname__" 469), (.str "NoName" 468)⟩, ⟨PyData.keyHash P "__firstlineno__", (.str "__firstlineno__" 471), (.int (45) 470)⟩, ⟨PyData.keyHash P "__init__", (.str "__init__" 479), (.ref 223)⟩, ⟨PyData.keyHash P "__static_attributes__", (.str "__static_attributes__" 481), (.ref 224)⟩] : List DictEntry))⟩ 5), ⟨[]⟩⟩
def o_18_213 (P : Params) : Obj := ⟨(.type "tuple"), none, (.seq ⟨([] : List Value)⟩ 0), ⟨[]⟩⟩
def o_18_214 (P : Params) : Obj := ⟨.none, none, (.fields ⟨(([(.int (47) 0), (.int (4) 0), (.ref 222)] : List Value))⟩), ⟨[]⟩⟩
def o_18_215 (P : Params) : Obj := ⟨(.type "code"), none, (.fields ⟨(([(.str "NoName" 462), (.str "NoName" 463), (.str "/claim/cut.py" 464), (.int (45) 0), (.int (0) 0), (.int (0) 0), (.int (0) 0), (.int (0) 0), (.ref 213), (.bool false), (.int (181) 0), (.ref 214)] : List Value) ++ ([.none, .none, .none, .none, (.int (465) 0), (.int (45) 0), (.str "/claim/cut.py" 466)] : List Value))⟩), ⟨[]⟩⟩
def o_18_216 (P : Params) : Obj := ⟨(.type "frame"), none, .plain, ⟨[(some (.ref 215)), (some (.ref 3)), (some (.ref 212)), none, (some (.str "tenwhole.signals" 194)), none, (some (.ref 0))]⟩⟩
def o_18_217 (P : Params) : Obj := ⟨(.type "tuple"), none, (.seq ⟨([] : List Value)⟩ 0), ⟨[]⟩⟩
def o_18_218 (P : Params) : Obj := ⟨.none, none, (.fields ⟨([] : List Value)⟩), ⟨[]⟩⟩
def o_18_219 (P : Params) : Obj := ⟨(.type "tuple"), none, (.seq ⟨(([(.str "self" 475), (.str "name" 476)] : List Value))⟩ 0), ⟨[]⟩⟩
def o_18_220 (P : Params) : Obj := ⟨(.type "tuple"), none, (.seq ⟨([] : List Value)⟩ 0), ⟨[]⟩⟩
def o_18_221 (P : Params) : Obj := ⟨.none, none, (.func ⟨"__init__", "NoName.__init__", defArgs (inClass (top 17) 0), .stmts (defBody (inClass (top 17) 0)), defScope (inClass (top 17) 0), 0, [], .none, .none, .none, .none, none, .none, .none, 0⟩), ⟨[]⟩⟩
def o_18_222 (P : Params) : Obj := ⟨(.type "code"), none, (.fields ⟨(([(.str "__init__" 472), (.str "NoName.__init__" 473), (.str "/claim/cut.py" 474), (.int (47) 0), (.int (2) 0), (.int (0) 0), (.int (0) 0), (.int (3) 0), (.ref 217), (.bool true), (.int (181) 0), (.ref 218)] : List Value) ++ ([.none, (.ref 219), (.ref 220), (.ref 221), (.int (477) 0), (.int (47) 0), (.str "/claim/cut.py" 478)] : List Value))⟩), ⟨[]⟩⟩
def o_18_223 (P : Params) : Obj := ⟨(.type "function"), none, (.func ⟨"__init__", "NoName.__init__", defArgs (inClass (top 17) 0), .stmts (defBody (inClass (top 17) 0)), defScope (inClass (top 17) 0), 3, [], .none, .none, .none, (.str "tenwhole.signals" 194), none, (.ref 222), .none, 0⟩), ⟨[]⟩⟩
def o_18_224 (P : Params) : Obj := ⟨(.type "tuple"), none, (.seq ⟨(([(.str "name" 480)] : List Value))⟩ 0), ⟨[]⟩⟩
def o_18_225 (P : Params) : Obj := ⟨(.type "dict"), none, (.dict ⟨(([⟨PyData.keyHash P "__module__", (.str "__module__" 467), (.str "tenwhole.signals" 194)⟩, ⟨PyData.keyHash P "__firstlineno__", (.str "__firstlineno__" 471), (.int (45) 470)⟩, ⟨PyData.keyHash P "__init__", (.str "__init__" 479), (.ref 223)⟩, ⟨PyData.keyHash P "__static_attributes__", (.str "__static_attributes__" 481), (.ref 224)⟩, ⟨PyData.keyHash P "__doc__", (.str "__doc__" 482), .none⟩] : List DictEntry))⟩ 2), ⟨[]⟩⟩
def o_18_226 (P : Params) : Obj := ⟨(.type "type"), none, (.cls ⟨"NoName", [(.ref 149)], [(.ref 226), (.ref 149), (.type "ValueError"), (.type "Exception"), (.type "BaseException"), (.type "object")], 225, "NoName", true, [], ([] : List Value), false, none, false⟩), ⟨[(some (.ref 210)), none, (some (.str "NoName" 460)), (some (.str "NoName" 468)), (some (.builtin "ValueError.__new__")), (some (.bool true))]⟩⟩
def o_18_227 (P : Params) : Obj := ⟨(.type "super"), none, (.fields ⟨(([(.ref 226), (.ref 226), (.ref 226)] : List Value))⟩), ⟨[]⟩⟩
def o_18_228 (P : Params) : Obj := ⟨(.type "builtin_function_or_method"), none, (.fields ⟨(([(.builtin "object.__init_subclass__"), (.ref 226)] : List Value))⟩), ⟨[]⟩⟩
def l_18 (P : Params) : List (Nat × Obj) := ([(3, o_18_3 P), (12, o_18_12 P), (40, o_18_40 P), (116, o_18_116 P), (117, o_18_117 P), (118, o_18_118 P), (119, o_18_119 P), (120, o_18_120 P), (121, o_18_121 P), (122, o_18_122 P), (123, o_18_123 P), (124, o_18_124 P), (125, o_18_125 P), (126, o_18_126 P), (127, o_18_127 P), (128, o_18_128 P), (129, o_18_129 P), (130, o_18_130 P), (131, o_18_131 P), (132, o_18_132 P), (133, o_18_133 P), (134, o_18_134 P), (135, o_18_135 P), (136, o_18_136 P), (137, o_18_137 P)] : List (Nat × Obj)) ++ ([(138, o_18_138 P), (139, o_18_139 P), (140, o_18_140 P), (141, o_18_141 P), (142, o_18_142 P), (143, o_18_143 P), (144, o_18_144 P), (145, o_18_145 P), (146, o_18_146 P), (147, o_18_147 P), (148, o_18_148 P), (149, o_18_149 P), (150, o_18_150 P), (151, o_18_151 P), (152, o_18_152 P), (153, o_18_153 P), (154, o_18_154 P), (155, o_18_155 P), (156, o_18_156 P), (157, o_18_157 P), (158, o_18_158 P), (159, o_18_159 P), (160, o_18_160 P), (161, o_18_161 P), (162, o_18_162 P)] : List (Nat × Obj)) ++ ([(163, o_18_163 P), (164, o_18_164 P), (165, o_18_165 P), (166, o_18_166 P), (167, o_18_167 P), (168, o_18_168 P), (169, o_18_169 P), (170, o_18_170 P), (171, o_18_171 P), (172, o_18_172 P), (173, o_18_173 P), (174, o_18_174 P), (175, o_18_175 P), (176, o_18_176 P), (177, o_18_177 P), (178, o_18_178 P), (179, o_18_179 P), (180, o_18_180 P), (181, o_18_181 P), (182, o_18_182 P), (183, o_18_183 P), (184, o_18_184 P), (185, o_18_185 P), (186, o_18_186 P), (187, o_18_187 P)] : List (Nat × Obj)) ++ ([(188, o_18_188 P), (189, o_18_189 P), (190, o_18_190 P), (191, o_18_191 P), (192, o_18_192 P), (193, o_18_193 P), (194, o_18_194 P), (195, o_18_195 P), (196, o_18_196 P), (197, o_18_197 P), (198, o_18_198 P), (199, o_18_199 P), (200, o_18_200 P), (201, o_18_201 P), (202, o_18_202 P), (203, o_18_203 P), (204, o_18_204 P), (205, o_18_205 P), (206, o_18_206 P), (207, o_18_207 P), (208, o_18_208 P), (209, o_18_209 P), (210, o_18_210 P), (211, o_18_211 P), (212, o_18_212 P)] : List (Nat × Obj)) ++ ([(213, o_18_213 P), (214, o_18_214 P), (215, o_18_215 P), (216, o_18_216 P), (217, o_18_217 P), (218, o_18_218 P), (219, o_18_219 P), (220, o_18_220 P), (221, o_18_221 P), (222, o_18_222 P), (223, o_18_223 P), (224, o_18_224 P), (225, o_18_225 P), (226, o_18_226 P), (227, o_18_227 P), (228, o_18_228 P)] : List (Nat × Obj))
def t_18 (P : Params) : BT := (insAll (l_18 P) (t_11 P)).getD .nil
def S_18 (w : World) (os : OsState) : SharedT := ⟨t_18 w.params, 229, {}, #[], ⟨0, 0, 0, 0⟩, 485, os⟩
def o_53_3 (P : Params) : Obj := ⟨(.type "dict"), none, (.dict ⟨(([⟨PyData.keyHash P "__name__", (.str "__name__" 165), (.str "tenwhole.finishing" 691)⟩, ⟨PyData.keyHash P "__doc__", (.str "__doc__" 166), .none⟩, ⟨PyData.keyHash P "__package__", (.str "__package__" 167), .none⟩, ⟨PyData.keyHash P "__loader__", (.str "__loader__" 168), (.builtin "__main__.__loader__#opaque")⟩, ⟨PyData.keyHash P "__spec__", (.str "__spec__" 169), .none⟩, ⟨PyData.keyHash P "__annotations__", (.str "__annotations__" 170), (.ref 6)⟩, ⟨PyData.keyHash P "__builtins__", (.str "__builtins__" 171), (.ref 4)⟩, ⟨PyData.keyHash P "__file__", (.str "__file__" 173), (.str "/claim/cut.py" 172)⟩, ⟨PyData.keyHash P "__cached__", (.str "__cached__" 174), .none⟩, ⟨PyData.keyHash P "_wall", (.str "_wall" 193), (.ref 21)⟩, ⟨PyData.keyHash P "ORDER", (.str "ORDER" 204), (.ref 22)⟩, ⟨PyData.keyHash P "INVALID", (.str "INVALID" 209), (.ref 23)⟩] : List DictEntry) ++ ([⟨PyData.keyHash P "TenSignal", (.str "TenSignal" 238), (.ref 40)⟩, ⟨PyData.keyHash P "Clamped", (.str "Clamped" 254), (.ref 53)⟩, ⟨PyData.keyHash P "DivisionByZero", (.str "DivisionByZero" 270), (.ref 65)⟩, ⟨PyData.keyHash P "Inexact", (.str "Inexact" 286), (.ref 77)⟩, ⟨PyData.keyHash P "InvalidOperation", (.str "InvalidOperation" 302), (.ref 89)⟩, ⟨PyData.keyHash P "Overflow", (.str "Overflow" 318), (.ref 101)⟩, ⟨PyData.keyHash P "Rounded", (.str "Rounded" 334), (.ref 113)⟩, ⟨PyData.keyHash P "Subnormal", (.str "Subnormal" 350), (.ref 125)⟩, ⟨PyData.keyHash P "Underflow", (.str "Underflow" 366), (.ref 137)⟩, ⟨PyData.keyHash P "TenError", (.str "TenError" 384), (.ref 149)⟩, ⟨PyData.keyHash P "NoOperand", (.str "NoOperand" 409), (.ref 169)⟩, ⟨PyData.keyHash P "NoDecimal", (.str "NoDecimal" 434), (.ref 188)⟩] : List DictEntry) ++ ([⟨PyData.keyHash P "NoContext", (.str "NoContext" 459), (.ref 207)⟩, ⟨PyData.keyHash P "NoName", (.str "NoName" 484), (.ref 226)⟩, ⟨PyData.keyHash P "raise_signal", (.str "raise_signal" 492), (.ref 235)⟩, ⟨PyData.keyHash P "signal_of", (.str "signal_of" 499), (.ref 242)⟩, ⟨PyData.keyHash P "STEP", (.str "STEP" 503), (.int (64) 502)⟩, ⟨PyData.keyHash P "GREAT_decimals", (.str "GREAT_decimals" 507), (.int (10000000000000000000000000000000000000000000000000000000000000000) 506)⟩, ⟨PyData.keyHash P "INFINITY", (.str "INFINITY" 509), (.str "F" 508)⟩, ⟨PyData.keyHash P "QUIET", (.str "QUIET" 511), (.str "n" 510)⟩, ⟨PyData.keyHash P "SIGNALING", (.str "SIGNALING" 513), (.str "N" 512)⟩, ⟨PyData.keyHash P "Decimal", (.str "Decimal" 569), (.ref 280)⟩, ⟨PyData.keyHash P "is_integer", (.str "is_integer" 576), (.ref 291)⟩, ⟨PyData.keyHash P "is_exponent", (.str "is_exponent" 583), (.ref 298)⟩] : List DictEntry) ++ ([⟨PyData.keyHash P "is_finite", (.str "is_finite" 590), (.ref 305)⟩, ⟨PyData.keyHash P "is_infinite", (.str "is_infinite" 597), (.ref 312)⟩, ⟨PyData.keyHash P "is_nan", (.str "is_nan" 604), (.ref 319)⟩, ⟨PyData.keyHash P "is_signaling", (.str "is_signaling" 611), (.ref 326)⟩, ⟨PyData.keyHash P "is_zero", (.str "is_zero" 618), (.ref 333)⟩, ⟨PyData.keyHash P "decimal_of", (.str "decimal_of" 625), (.ref 340)⟩, ⟨PyData.keyHash P "infinity", (.str "infinity" 632), (.ref 347)⟩, ⟨PyData.keyHash P "plain_nan", (.str "plain_nan" 638), (.ref 354)⟩, ⟨PyData.keyHash P "tens", (.str "tens" 647), (.ref 361)⟩, ⟨PyData.keyHash P "count_digits", (.str "count_digits" 655), (.ref 368)⟩, ⟨PyData.keyHash P "digits_of", (.str "digits_of" 661), (.ref 373)⟩, ⟨PyData.keyHash P "order_of", (.str "order_of" 671), (.ref 380)⟩] : List DictEntry) ++ ([⟨PyData.keyHash P "side_of", (.str "side_of" 679), (.ref 387)⟩, ⟨PyData.keyHash P "size_order", (.str "size_order" 690), (.ref 394)⟩, ⟨PyData.keyHash P "Rules", (.str "Rules" 751), (.ref 432)⟩, ⟨PyData.keyHash P "goes_up", (.str "goes_up" 761), (.ref 443)⟩, ⟨PyData.keyHash P "rounded_parts", (.str "rounded_parts" 776), (.ref 450)⟩, ⟨PyData.keyHash P "overflow", (.str "overflow" 786), (.ref 457)⟩, ⟨PyData.keyHash P "finish_zero", (.str "finish_zero" 797), (.ref 464)⟩, ⟨PyData.keyHash P "finish_cut", (.str "finish_cut" 812), (.ref 471)⟩, ⟨PyData.keyHash P "finish_parts", (.str "finish_parts" 826), (.ref 478)⟩, ⟨PyData.keyHash P "finish_endless", (.str "finish_endless" 836), (.ref 485)⟩, ⟨PyData.keyHash P "kept_digits", (.str "kept_digits" 845), (.ref 492)⟩] : List DictEntry))⟩ 59), ⟨[]⟩⟩
def o_53_12 (P : Params) : Obj := ⟨.none, none, (.fields ⟨(([(.int (1) 0), (.int (0) 0), (.ref 20), (.int (7) 0), (.int (0) 0), (.ref 29), (.int (12) 0), (.int (0) 0), (.ref 49), (.int (14) 0), (.int (0) 0), (.ref 61)] : List Value) ++ ([(.int (16) 0), (.int (0) 0), (.ref 73), (.int (18) 0), (.int (0) 0), (.ref 85), (.int (20) 0), (.int (0) 0), (.ref 97), (.int (22) 0), (.int (0) 0), (.ref 109)] : List Value) ++ ([(.int (24) 0), (.int (0) 0), (.ref 121), (.int (26) 0), (.int (0) 0), (.ref 133), (.int (28) 0), (.int (0) 0), (.ref 145), (.int (30) 0), (.int (0) 0), (.ref 158)] : List Value) ++ ([(.int (35) 0), (.int (0) 0), (.ref 177), (.int (40) 0), (.int (0) 0), (.ref 196), (.int (45) 0), (.int (0) 0), (.ref 215), (.int (50) 0), (.int (0) 0), (.ref 234)] : List Value) ++ ([(.int (66) 0), (.int (0) 0), (.ref 241), (.int (74) 0), (.int (0) 0), (.ref 248), (.int (101) 0), (.int (0) 0), (.ref 290), (.int (103) 0), (.int (0) 0), (.ref 297)] : List Value) ++ ([(.int (105) 0), (.int (0) 0), (.ref 304), (.int (107) 0), (.int (0) 0), (.ref 311), (.int (109) 0), (.int (0) 0), (.ref 318), (.int (111) 0), (.int (0) 0), (.ref 325)] : List Value) ++ ([(.int (113) 0), (.int (0) 0), (.ref 332), (.int (115) 0), (.int (0) 0), (.ref 339), (.int (121) 0), (.int (0) 0), (.ref 346), (.int (123) 0), (.int (0) 0), (.ref 353)] : List Value) ++ ([(.int (125) 0), (.int (0) 0), (.ref 360), (.int (132) 0), (.int (0) 0), (.ref 367), (.int (138) 0), (.int (0) 0), (.ref 372), (.int (145) 0), (.int (0) 0), (.ref 379)] : List Value) ++ ([(.int (154) 0), (.int (0) 0), (.ref 386), (.int (157) 0), (.int (0) 0), (.ref 393), (.int (165) 0), (.int (0) 0), (.ref 400), (.int (182) 0), (.int (0) 0), (.ref 442)] : List Value) ++ ([(.int (188) 0), (.int (0) 0), (.ref 449), (.int (198) 0), (.int (0) 0), (.ref 456), (.int (204) 0), (.int (0) 0), (.ref 463), (.int (208) 0), (.int (0) 0), (.ref 470)] : List Value) ++ ([(.int (219) 0), (.int (0) 0), (.ref 477), (.int (233) 0), (.int (0) 0), (.ref 484), (.int (235) 0), (.int (0) 0), (.ref 491)] : List Value))⟩), ⟨[]⟩⟩
def o_53_229 (P : Params) : Obj := ⟨(.type "tuple"), none, (.seq ⟨([] : List Value)⟩ 0), ⟨[]⟩⟩
def o_53_230 (P : Params) : Obj := ⟨.none, none, (.fields ⟨([] : List Value)⟩), ⟨[]⟩⟩
def o_53_231 (P : Params) : Obj := ⟨(.type "tuple"), none, (.seq ⟨(([(.str "name" 488), (.str "conditions" 489)] : List Value))⟩ 0), ⟨[]⟩⟩
def o_53_232 (P : Params) : Obj := ⟨(.type "tuple"), none, (.seq ⟨([] : List Value)⟩ 0), ⟨[]⟩⟩
def o_53_233 (P : Params) : Obj := ⟨.none, none, (.func ⟨"raise_signal", "raise_signal", defArgs (top 18), .stmts (defBody (top 18)), defScope (top 18), 0, [], .none, .none, .none, .none, none, .none, .none, 0⟩), ⟨[]⟩⟩
def o_53_234 (P : Params) : Obj := ⟨(.type "code"), none, (.fields ⟨(([(.str "raise_signal" 485), (.str "raise_signal" 486), (.str "/claim/cut.py" 487), (.int (50) 0), (.int (2) 0), (.int (0) 0), (.int (0) 0), (.int (3) 0), (.ref 229), (.bool true), (.int (181) 0), (.ref 230)] : List Value) ++ ([.none, (.ref 231), (.ref 232), (.ref 233), (.int (490) 0), (.int (50) 0), (.str "/claim/cut.py" 491)] : List Value))⟩), ⟨[]⟩⟩
def o_53_235 (P : Params) : Obj := ⟨(.type "function"), none, (.func ⟨"raise_signal", "raise_signal", defArgs (top 18), .stmts (defBody (top 18)), defScope (top 18), 3, [], .none, .none, .none, (.str "tenwhole.signals" 194), none, (.ref 234), .none, 0⟩), ⟨[]⟩⟩
def o_53_236 (P : Params) : Obj := ⟨(.type "tuple"), none, (.seq ⟨([] : List Value)⟩ 0), ⟨[]⟩⟩
def o_53_237 (P : Params) : Obj := ⟨.none, none, (.fields ⟨([] : List Value)⟩), ⟨[]⟩⟩
def o_53_238 (P : Params) : Obj := ⟨(.type "tuple"), none, (.seq ⟨(([(.str "condition" 496)] : List Value))⟩ 0), ⟨[]⟩⟩
def o_53_239 (P : Params) : Obj := ⟨(.type "tuple"), none, (.seq ⟨([] : List Value)⟩ 0), ⟨[]⟩⟩
def o_53_240 (P : Params) : Obj := ⟨.none, none, (.func ⟨"signal_of", "signal_of", defArgs (top 19), .stmts (defBody (top 19)), defScope (top 19), 0, [], .none, .none, .none, .none, none, .none, .none, 0⟩), ⟨[]⟩⟩
def o_53_241 (P : Params) : Obj := ⟨(.type "code"), none, (.fields ⟨(([(.str "signal_of" 493), (.str "signal_of" 494), (.str "/claim/cut.py" 495), (.int (66) 0), (.int (1) 0), (.int (0) 0), (.int (0) 0), (.int (3) 0), (.ref 236), (.bool true), (.int (181) 0), (.ref 237)] : List Value) ++ ([.none, (.ref 238), (.ref 239), (.ref 240), (.int (497) 0), (.int (66) 0), (.str "/claim/cut.py" 498)] : List Value))⟩), ⟨[]⟩⟩
def o_53_242 (P : Params) : Obj := ⟨(.type "function"), none, (.func ⟨"signal_of", "signal_of", defArgs (top 19), .stmts (defBody (top 19)), defScope (top 19), 3, [], .none, .none, .none, (.str "tenwhole.signals" 194), none, (.ref 241), .none, 0⟩), ⟨[]⟩⟩
def o_53_243 (P : Params) : Obj := ⟨(.type "tuple"), none, (.seq ⟨([] : List Value)⟩ 0), ⟨[]⟩⟩
def o_53_244 (P : Params) : Obj := ⟨(.type "builtin_function_or_method"), none, (.fields ⟨(([(.builtin "type.__prepare__"), (.type "type")] : List Value))⟩), ⟨[]⟩⟩
def o_53_245 (P : Params) : Obj := ⟨(.type "dict"), none, (.dict ⟨(([⟨PyData.keyHash P "__module__", (.str "__module__" 521), (.str "tenwhole.decimals" 500)⟩, ⟨PyData.keyHash P "__qualname__", (.str "__qualname__" 523), (.str "Decimal" 522)⟩, ⟨PyData.keyHash P "__firstlineno__", (.str "__firstlineno__" 525), (.int (74) 524)⟩, ⟨PyData.keyHash P "__init__", (.str "__init__" 535), (.ref 256)⟩, ⟨PyData.keyHash P "adjusted", (.str "adjusted" 542), (.ref 263)⟩, ⟨PyData.keyHash P "as_tuple", (.str "as_tuple" 549), (.ref 270)⟩, ⟨PyData.keyHash P "__eq__", (.str "__eq__" 557), (.ref 277)⟩, ⟨PyData.keyHash P "__static_attributes__", (.str "__static_attributes__" 561), (.ref 278)⟩] : List DictEntry))⟩ 8), ⟨[]⟩⟩
def o_53_246 (P : Params) : Obj := ⟨(.type "tuple"), none, (.seq ⟨([] : List Value)⟩ 0), ⟨[]⟩⟩
def o_53_247 (P : Params) : Obj := ⟨.none, none, (.fields ⟨(([(.int (76) 0), (.int (4) 0), (.ref 255), (.int (89) 0), (.int (4) 0), (.ref 262), (.int (92) 0), (.int (4) 0), (.ref 269), (.int (95) 0), (.int (4) 0), (.ref 276)] : List Value))⟩), ⟨[]⟩⟩
def o_53_248 (P : Params) : Obj := ⟨(.type "code"), none, (.fields ⟨(([(.str "Decimal" 516), (.str "Decimal" 517), (.str "/claim/cut.py" 518), (.int (74) 0), (.int (0) 0), (.int (0) 0), (.int (0) 0), (.int (0) 0), (.ref 246), (.bool false), (.int (181) 0), (.ref 247)] : List Value) ++ ([.none, .none, .none, .none, (.int (519) 0), (.int (74) 0), (.str "/claim/cut.py" 520)] : List Value))⟩), ⟨[]⟩⟩
def o_53_249 (P : Params) : Obj := ⟨(.type "frame"), none, .plain, ⟨[(some (.ref 248)), (some (.ref 3)), (some (.ref 245)), none, (some (.str "tenwhole.decimals" 500)), none, (some (.ref 0))]⟩⟩
def o_53_250 (P : Params) : Obj := ⟨(.type "tuple"), none, (.seq ⟨([] : List Value)⟩ 0), ⟨[]⟩⟩
def o_53_251 (P : Params) : Obj := ⟨.none, none, (.fields ⟨([] : List Value)⟩), ⟨[]⟩⟩
def o_53_252 (P : Params) : Obj := ⟨(.type "tuple"), none, (.seq ⟨(([(.str "self" 529), (.str "sign" 530), (.str "coefficient" 531), (.str "exponent" 532)] : List Value))⟩ 0), ⟨[]⟩⟩
def o_53_253 (P : Params) : Obj := ⟨(.type "tuple"), none, (.seq ⟨([] : List Value)⟩ 0), ⟨[]⟩⟩
def o_53_254 (P : Params) : Obj := ⟨.none, none, (.func ⟨"__init__", "Decimal.__init__", defArgs (inClass (top 26) 0), .stmts (defBody (inClass (top 26) 0)), defScope (inClass (top 26) 0), 0, [], .none, .none, .none, .none, none, .none, .none, 0⟩), ⟨[]⟩⟩
def o_53_255 (P : Params) : Obj := ⟨(.type "code"), none, (.fields ⟨(([(.str "__init__" 526), (.str "Decimal.__init__" 527), (.str "/claim/cut.py" 528), (.int (76) 0), (.int (4) 0), (.int (0) 0), (.int (0) 0), (.int (3) 0), (.ref 250), (.bool true), (.int (181) 0), (.ref 251)] : List Value) ++ ([.none, (.ref 252), (.ref 253), (.ref 254), (.int (533) 0), (.int (76) 0), (.str "/claim/cut.py" 534)] : List Value))⟩), ⟨[]⟩⟩
def o_53_256 (P : Params) : Obj := ⟨(.type "function"), none, (.func ⟨"__init__", "Decimal.__init__", defArgs (inClass (top 26) 0), .stmts (defBody (inClass (top 26) 0)), defScope (inClass (top 26) 0), 3, [], .none, .none, .none, (.str "tenwhole.decimals" 500), none, (.ref 255), .none, 0⟩), ⟨[]⟩⟩
def o_53_257 (P : Params) : Obj := ⟨(.type "tuple"), none, (.seq ⟨([] : List Value)⟩ 0), ⟨[]⟩⟩
def o_53_258 (P : Params) : Obj := ⟨.none, none, (.fields ⟨([] : List Value)⟩), ⟨[]⟩⟩
def o_53_259 (P : Params) : Obj := ⟨(.type "tuple"), none, (.seq ⟨(([(.str "self" 539)] : List Value))⟩ 0), ⟨[]⟩⟩
def o_53_260 (P : Params) : Obj := ⟨(.type "tuple"), none, (.seq ⟨([] : List Value)⟩ 0), ⟨[]⟩⟩
def o_53_261 (P : Params) : Obj := ⟨.none, none, (.func ⟨"adjusted", "Decimal.adjusted", defArgs (inClass (top 26) 1), .stmts (defBody (inClass (top 26) 1)), defScope (inClass (top 26) 1), 0, [], .none, .none, .none, .none, none, .none, .none, 0⟩), ⟨[]⟩⟩
def o_53_262 (P : Params) : Obj := ⟨(.type "code"), none, (.fields ⟨(([(.str "adjusted" 536), (.str "Decimal.adjusted" 537), (.str "/claim/cut.py" 538), (.int (89) 0), (.int (1) 0), (.int (0) 0), (.int (0) 0), (.int (3) 0), (.ref 257), (.bool true), (.int (181) 0), (.ref 258)] : List Value) ++ ([.none, (.ref 259), (.ref 260), (.ref 261), (.int (540) 0), (.int (89) 0), (.str "/claim/cut.py" 541)] : List Value))⟩), ⟨[]⟩⟩
def o_53_263 (P : Params) : Obj := ⟨(.type "function"), none, (.func ⟨"adjusted", "Decimal.adjusted", defArgs (inClass (top 26) 1), .stmts (defBody (inClass (top 26) 1)), defScope (inClass (top 26) 1), 3, [], .none, .none, .none, (.str "tenwhole.decimals" 500), none, (.ref 262), .none, 0⟩), ⟨[]⟩⟩
def o_53_264 (P : Params) : Obj := ⟨(.type "tuple"), none, (.seq ⟨([] : List Value)⟩ 0), ⟨[]⟩⟩
def o_53_265 (P : Params) : Obj := ⟨.none, none, (.fields ⟨([] : List Value)⟩), ⟨[]⟩⟩
def o_53_266 (P : Params) : Obj := ⟨(.type "tuple"), none, (.seq ⟨(([(.str "self" 546)] : List Value))⟩ 0), ⟨[]⟩⟩
def o_53_267 (P : Params) : Obj := ⟨(.type "tuple"), none, (.seq ⟨([] : List Value)⟩ 0), ⟨[]⟩⟩
def o_53_268 (P : Params) : Obj := ⟨.none, none, (.func ⟨"as_tuple", "Decimal.as_tuple", defArgs (inClass (top 26) 2), .stmts (defBody (inClass (top 26) 2)), defScope (inClass (top 26) 2), 0, [], .none, .none, .none, .none, none, .none, .none, 0⟩), ⟨[]⟩⟩
def o_53_269 (P : Params) : Obj := ⟨(.type "code"), none, (.fields ⟨(([(.str "as_tuple" 543), (.str "Decimal.as_tuple" 544), (.str "/claim/cut.py" 545), (.int (92) 0), (.int (1) 0), (.int (0) 0), (.int (0) 0), (.int (3) 0), (.ref 264), (.bool true), (.int (181) 0), (.ref 265)] : List Value) ++ ([.none, (.ref 266), (.ref 267), (.ref 268), (.int (547) 0), (.int (92) 0), (.str "/claim/cut.py" 548)] : List Value))⟩), ⟨[]⟩⟩
def o_53_270 (P : Params) : Obj := ⟨(.type "function"), none, (.func ⟨"as_tuple", "Decimal.as_tuple", defArgs (inClass (top 26) 2), .stmts (defBody (inClass (top 26) 2)), defScope (inClass (top 26) 2), 3, [], .none, .none, .none, (.str "tenwhole.decimals" 500), none, (.ref 269), .none, 0⟩), ⟨[]⟩⟩
def o_53_271 (P : Params) : Obj := ⟨(.type "tuple"), none, (.seq ⟨([] : List Value)⟩ 0), ⟨[]⟩⟩
def o_53_272 (P : Params) : Obj := ⟨.none, none, (.fields ⟨([] : List Value)⟩), ⟨[]⟩⟩
def o_53_273 (P : Params) : Obj := ⟨(.type "tuple"), none, (.seq ⟨(([(.str "self" 553), (.str "other" 554)] : List Value))⟩ 0), ⟨[]⟩⟩
def o_53_274 (P : Params) : Obj := ⟨(.type "tuple"), none, (.seq ⟨([] : List Value)⟩ 0), ⟨[]⟩⟩
def o_53_275 (P : Params) : Obj := ⟨.none, none, (.func ⟨"__eq__", "Decimal.__eq__", defArgs (inClass (top 26) 3), .stmts (defBody (inClass (top 26) 3)), defScope (inClass (top 26) 3), 0, [], .none, .none, .none, .none, none, .none, .none, 0⟩), ⟨[]⟩⟩
def o_53_276 (P : Params) : Obj := ⟨(.type "code"), none, (.fields ⟨(([(.str "__eq__" 550), (.str "Decimal.__eq__" 551), (.str "/claim/cut.py" 552), (.int (95) 0), (.int (2) 0), (.int (0) 0), (.int (0) 0), (.int (3) 0), (.ref 271), (.bool true), (.int (181) 0), (.ref 272)] : List Value) ++ ([.none, (.ref 273), (.ref 274), (.ref 275), (.int (555) 0), (.int (95) 0), (.str "/claim/cut.py" 556)] : List Value))⟩), ⟨[]⟩⟩
def o_53_277 (P : Params) : Obj := ⟨(.type "function"), none, (.func ⟨"__eq__", "Decimal.__eq__", defArgs (inClass (top 26) 3), .stmts (defBody (inClass (top 26) 3)), defScope (inClass (top 26) 3), 3, [], .none, .none, .none, (.str "tenwhole.decimals" 500), none, (.ref 276), .none, 0⟩), ⟨[]⟩⟩
def o_53_278 (P : Params) : Obj := ⟨(.type "tuple"), none, (.seq ⟨(([(.str "coefficient" 558), (.str "exponent" 559), (.str "sign" 560)] : List Value))⟩ 0), ⟨[]⟩⟩
def o_53_279 (P : Params) : Obj := ⟨(.type "dict"), none, (.dict ⟨(([⟨PyData.keyHash P "__module__", (.str "__module__" 521), (.str "tenwhole.decimals" 500)⟩, ⟨PyData.keyHash P "__firstlineno__", (.str "__firstlineno__" 525), (.int (74) 524)⟩, ⟨PyData.keyHash P "__init__", (.str "__init__" 535), (.ref 256)⟩, ⟨PyData.keyHash P "adjusted", (.str "adjusted" 542), (.ref 263)⟩, ⟨PyData.keyHash P "as_tuple", (.str "as_tuple" 549), (.ref 270)⟩, ⟨PyData.keyHash P "__eq__", (.str "__eq__" 557), (.ref 277)⟩, ⟨PyData.keyHash P "__static_attributes__", (.str "__static_attributes__" 561), (.ref 278)⟩, ⟨PyData.keyHash P "__dict__", (.str "__dict__" 563), (.ref 281)⟩, ⟨PyData.keyHash P "__weakref__", (.str "__weakref__" 565), (.ref 282)⟩, ⟨PyData.keyHash P "__doc__", (.str "__doc__" 566), .none⟩, ⟨PyData.keyHash P "__hash__", (.str "__hash__" 567), .none⟩] : List DictEntry))⟩ 5), ⟨[]⟩⟩
def o_53_280 (P : Params) : Obj := ⟨(.type "type"), none, (.cls ⟨"Decimal", [(.type "object")], [(.ref 280), (.type "object")], 279, "Decimal", true, [], ([] : List Value), false, none, false⟩), ⟨[none, none, (some (.str "Decimal" 514)), (some (.str "Decimal" 522)), (some (.builtin "object.__new__")), (some (.bool true))]⟩⟩
def o_53_281 (P : Params) : Obj := ⟨(.type "getset_descriptor"), none, (.fields ⟨(([(.str "__dict__" 562), (.ref 280), (.builtin "function.__dict__"), (.builtin "function.__dict__#set")] : List Value))⟩), ⟨[]⟩⟩
def o_53_282 (P : Params) : Obj := ⟨(.type "getset_descriptor"), none, (.fields ⟨(([(.str "__weakref__" 564), (.ref 280), (.builtin "ExceptionGroup.__weakref__"), .none] : List Value))⟩), ⟨[]⟩⟩
def o_53_283 (P : Params) : Obj := ⟨(.type "super"), none, (.fields ⟨(([(.ref 280), (.ref 280), (.ref 280)] : List Value))⟩), ⟨[]⟩⟩
def o_53_284 (P : Params) : Obj := ⟨(.type "builtin_function_or_method"), none, (.fields ⟨(([(.builtin "object.__init_subclass__"), (.ref 280)] : List Value))⟩), ⟨[]⟩⟩
def o_53_285 (P : Params) : Obj := ⟨(.type "tuple"), none, (.seq ⟨([] : List Value)⟩ 0), ⟨[]⟩⟩
def o_53_286 (P : Params) : Obj := ⟨.none, none, (.fields ⟨([] : List Value)⟩), ⟨[]⟩⟩
def o_53_287 (P : Params) : Obj := ⟨(.type "tuple"), none, (.seq ⟨(([(.str "thing" 573)] : List Value))⟩ 0), ⟨[]⟩⟩
def o_53_288 (P : Params) : Obj := ⟨(.type "tuple"), none, (.seq ⟨([] : List Value)⟩ 0), ⟨[]⟩⟩
def o_53_289 (P : Params) : Obj := ⟨.none, none, (.func ⟨"is_integer", "is_integer", defArgs (top 27), .stmts (defBody (top 27)), defScope (top 27), 0, [], .none, .none, .none, .none, none, .none, .none, 0⟩), ⟨[]⟩⟩
def o_53_290 (P : Params) : Obj := ⟨(.type "code"), none, (.fields ⟨(([(.str "is_integer" 570), (.str "is_integer" 571), (.str "/claim/cut.py" 572), (.int (101) 0), (.int (1) 0), (.int (0) 0), (.int (0) 0), (.int (3) 0), (.ref 285), (.bool true), (.int (181) 0), (.ref 286)] : List Value) ++ ([.none, (.ref 287), (.ref 288), (.ref 289), (.int (574) 0), (.int (101) 0), (.str "/claim/cut.py" 575)] : List Value))⟩), ⟨[]⟩⟩
def o_53_291 (P : Params) : Obj := ⟨(.type "function"), none, (.func ⟨"is_integer", "is_integer", defArgs (top 27), .stmts (defBody (top 27)), defScope (top 27), 3, [], .none, .none, .none, (.str "tenwhole.decimals" 500), none, (.ref 290), .none, 0⟩), ⟨[]⟩⟩
def o_53_292 (P : Params) : Obj := ⟨(.type "tuple"), none, (.seq ⟨([] : List Value)⟩ 0), ⟨[]⟩⟩
def o_53_293 (P : Params) : Obj := ⟨.none, none, (.fields ⟨([] : List Value)⟩), ⟨[]⟩⟩
def o_53_294 (P : Params) : Obj := ⟨(.type "tuple"), none, (.seq ⟨(([(.str "thing" 580)] : List Value))⟩ 0), ⟨[]⟩⟩
def o_53_295 (P : Params) : Obj := ⟨(.type "tuple"), none, (.seq ⟨([] : List Value)⟩ 0), ⟨[]⟩⟩
def o_53_296 (P : Params) : Obj := ⟨.none, none, (.func ⟨"is_exponent", "is_exponent", defArgs (top 28), .stmts (defBody (top 28)), defScope (top 28), 0, [], .none, .none, .none, .none, none, .none, .none, 0⟩), ⟨[]⟩⟩
def o_53_297 (P : Params) : Obj := ⟨(.type "code"), none, (.fields ⟨(([(.str "is_exponent" 577), (.str "is_exponent" 578), (.str "/claim/cut.py" 579), (.int (103) 0), (.int (1) 0), (.int (0) 0), (.int (0) 0), (.int (3) 0), (.ref 292), (.bool true), (.int (181) 0), (.ref 293)] : List Value) ++ ([.none, (.ref 294), (.ref 295), (.ref 296), (.int (581) 0), (.int (103) 0), (.str "/claim/cut.py" 582)] : List Value))⟩), ⟨[]⟩⟩
def o_53_298 (P : Params) : Obj := ⟨(.type "function"), none, (.func ⟨"is_exponent", "is_exponent", defArgs (top 28), .stmts (defBody (top 28)), defScope (top 28), 3, [], .none, .none, .none, (.str "tenwhole.decimals" 500), none, (.ref 297), .none, 0⟩), ⟨[]⟩⟩
def o_53_299 (P : Params) : Obj := ⟨(.type "tuple"), none, (.seq ⟨([] : List Value)⟩ 0), ⟨[]⟩⟩
def o_53_300 (P : Params) : Obj := ⟨.none, none, (.fields ⟨([] : List Value)⟩), ⟨[]⟩⟩
def o_53_301 (P : Params) : Obj := ⟨(.type "tuple"), none, (.seq ⟨(([(.str "a" 587)] : List Value))⟩ 0), ⟨[]⟩⟩
def o_53_302 (P : Params) : Obj := ⟨(.type "tuple"), none, (.seq ⟨([] : List Value)⟩ 0), ⟨[]⟩⟩
def o_53_303 (P : Params) : Obj := ⟨.none, none, (.func ⟨"is_finite", "is_finite", defArgs (top 29), .stmts (defBody (top 29)), defScope (top 29), 0, [], .none, .none, .none, .none, none, .none, .none, 0⟩), ⟨[]⟩⟩
def o_53_304 (P : Params) : Obj := ⟨(.type "code"), none, (.fields ⟨(([(.str "is_finite" 584), (.str "is_finite" 585), (.str "/claim/cut.py" 586), (.int (105) 0), (.int (1) 0), (.int (0) 0), (.int (0) 0), (.int (3) 0), (.ref 299), (.bool true), (.int (181) 0), (.ref 300)] : List Value) ++ ([.none, (.ref 301), (.ref 302), (.ref 303), (.int (588) 0), (.int (105) 0), (.str "/claim/cut.py" 589)] : List Value))⟩), ⟨[]⟩⟩
def o_53_305 (P : Params) : Obj := ⟨(.type "function"), none, (.func ⟨"is_finite", "is_finite", defArgs (top 29), .stmts (defBody (top 29)), defScope (top 29), 3, [], .none, .none, .none, (.str "tenwhole.decimals" 500), none, (.ref 304), .none, 0⟩), ⟨[]⟩⟩
def o_53_306 (P : Params) : Obj := ⟨(.type "tuple"), none, (.seq ⟨([] : List Value)⟩ 0), ⟨[]⟩⟩
def o_53_307 (P : Params) : Obj := ⟨.none, none, (.fields ⟨([] : List Value)⟩), ⟨[]⟩⟩
def o_53_308 (P : Params) : Obj := ⟨(.type "tuple"), none, (.seq ⟨(([(.str "a" 594)] : List Value))⟩ 0), ⟨[]⟩⟩
def o_53_309 (P : Params) : Obj := ⟨(.type "tuple"), none, (.seq ⟨([] : List Value)⟩ 0), ⟨[]⟩⟩
def o_53_310 (P : Params) : Obj := ⟨.none, none, (.func ⟨"is_infinite", "is_infinite", defArgs (top 30), .stmts (defBody (top 30)), defScope (top 30), 0, [], .none, .none, .none, .none, none, .none, .none, 0⟩), ⟨[]⟩⟩
def o_53_311 (P : Params) : Obj := ⟨(.type "code"), none, (.fields ⟨(([(.str "is_infinite" 591), (.str "is_infinite" 592), (.str "/claim/cut.py" 593), (.int (107) 0), (.int (1) 0), (.int (0) 0), (.int (0) 0), (.int (3) 0), (.ref 306), (.bool true), (.int (181) 0), (.ref 307)] : List Value) ++ ([.none, (.ref 308), (.ref 309), (.ref 310), (.int (595) 0), (.int (107) 0), (.str "/claim/cut.py" 596)] : List Value))⟩), ⟨[]⟩⟩
def o_53_312 (P : Params) : Obj := ⟨(.type "function"), none, (.func ⟨"is_infinite", "is_infinite", defArgs (top 30), .stmts (defBody (top 30)), defScope (top 30), 3, [], .none, .none, .none, (.str "tenwhole.decimals" 500), none, (.ref 311), .none, 0⟩), ⟨[]⟩⟩
def o_53_313 (P : Params) : Obj := ⟨(.type "tuple"), none, (.seq ⟨([] : List Value)⟩ 0), ⟨[]⟩⟩
def o_53_314 (P : Params) : Obj := ⟨.none, none, (.fields ⟨([] : List Value)⟩), ⟨[]⟩⟩
def o_53_315 (P : Params) : Obj := ⟨(.type "tuple"), none, (.seq ⟨(([(.str "a" 601)] : List Value))⟩ 0), ⟨[]⟩⟩
def o_53_316 (P : Params) : Obj := ⟨(.type "tuple"), none, (.seq ⟨([] : List Value)⟩ 0), ⟨[]⟩⟩
def o_53_317 (P : Params) : Obj := ⟨.none, none, (.func ⟨"is_nan", "is_nan", defArgs (top 31), .stmts (defBody (top 31)), defScope (top 31), 0, [], .none, .none, .none, .none, none, .none, .none, 0⟩), ⟨[]⟩⟩
def o_53_318 (P : Params) : Obj := ⟨(.type "code"), none, (.fields ⟨(([(.str "is_nan" 598), (.str "is_nan" 599), (.str "/claim/cut.py" 600), (.int (109) 0), (.int (1) 0), (.int (0) 0), (.int (0) 0), (.int (3) 0), (.ref 313), (.bool true), (.int (181) 0), (.ref 314)] : List Value) ++ ([.none, (.ref 315), (.ref 316), (.ref 317), (.int (602) 0), (.int (109) 0), (.str "/claim/cut.py" 603)] : List Value))⟩), ⟨[]⟩⟩
def o_53_319 (P : Params) : Obj := ⟨(.type "function"), none, (.func ⟨"is_nan", "is_nan", defArgs (top 31), .stmts (defBody (top 31)), defScope (top 31), 3, [], .none, .none, .none, (.str "tenwhole.decimals" 500), none, (.ref 318), .none, 0⟩), ⟨[]⟩⟩
def o_53_320 (P : Params) : Obj := ⟨(.type "tuple"), none, (.seq ⟨([] : List Value)⟩ 0), ⟨[]⟩⟩
def o_53_321 (P : Params) : Obj := ⟨.none, none, (.fields ⟨([] : List Value)⟩), ⟨[]⟩⟩
def o_53_322 (P : Params) : Obj := ⟨(.type "tuple"), none, (.seq ⟨(([(.str "a" 608)] : List Value))⟩ 0), ⟨[]⟩⟩
def o_53_323 (P : Params) : Obj := ⟨(.type "tuple"), none, (.seq ⟨([] : List Value)⟩ 0), ⟨[]⟩⟩
def o_53_324 (P : Params) : Obj := ⟨.none, none, (.func ⟨"is_signaling", "is_signaling", defArgs (top 32), .stmts (defBody (top 32)), defScope (top 32), 0, [], .none, .none, .none, .none, none, .none, .none, 0⟩), ⟨[]⟩⟩
def o_53_325 (P : Params) : Obj := ⟨(.type "code"), none, (.fields ⟨(([(.str "is_signaling" 605), (.str "is_signaling" 606), (.str "/claim/cut.py" 607), (.int (111) 0), (.int (1) 0), (.int (0) 0), (.int (0) 0), (.int (3) 0), (.ref 320), (.bool true), (.int (181) 0), (.ref 321)] : List Value) ++ ([.none, (.ref 322), (.ref 323), (.ref 324), (.int (609) 0), (.int (111) 0), (.str "/claim/cut.py" 610)] : List Value))⟩), ⟨[]⟩⟩
def o_53_326 (P : Params) : Obj := ⟨(.type "function"), none, (.func ⟨"is_signaling", "is_signaling", defArgs (top 32), .stmts (defBody (top 32)), defScope (top 32), 3, [], .none, .none, .none, (.str "tenwhole.decimals" 500), none, (.ref 325), .none, 0⟩), ⟨[]⟩⟩
def o_53_327 (P : Params) : Obj := ⟨(.type "tuple"), none, (.seq ⟨([] : List Value)⟩ 0), ⟨[]⟩⟩
def o_53_328 (P : Params) : Obj := ⟨.none, none, (.fields ⟨([] : List Value)⟩), ⟨[]⟩⟩
def o_53_329 (P : Params) : Obj := ⟨(.type "tuple"), none, (.seq ⟨(([(.str "a" 615)] : List Value))⟩ 0), ⟨[]⟩⟩
def o_53_330 (P : Params) : Obj := ⟨(.type "tuple"), none, (.seq ⟨([] : List Value)⟩ 0), ⟨[]⟩⟩
def o_53_331 (P : Params) : Obj := ⟨.none, none, (.func ⟨"is_zero", "is_zero", defArgs (top 33), .stmts (defBody (top 33)), defScope (top 33), 0, [], .none, .none, .none, .none, none, .none, .none, 0⟩), ⟨[]⟩⟩
def o_53_332 (P : Params) : Obj := ⟨(.type "code"), none, (.fields ⟨(([(.str "is_zero" 612), (.str "is_zero" 613), (.str "/claim/cut.py" 614), (.int (113) 0), (.int (1) 0), (.int (0) 0), (.int (0) 0), (.int (3) 0), (.ref 327), (.bool true), (.int (181) 0), (.ref 328)] : List Value) ++ ([.none, (.ref 329), (.ref 330), (.ref 331), (.int (616) 0), (.int (113) 0), (.str "/claim/cut.py" 617)] : List Value))⟩), ⟨[]⟩⟩
def o_53_333 (P : Params) : Obj := ⟨(.type "function"), none, (.func ⟨"is_zero", "is_zero", defArgs (top 33), .stmts (defBody (top 33)), defScope (top 33), 3, [], .none, .none, .none, (.str "tenwhole.decimals" 500), none, (.ref 332), .none, 0⟩), ⟨[]⟩⟩
def o_53_334 (P : Params) : Obj := ⟨(.type "tuple"), none, (.seq ⟨([] : List Value)⟩ 0), ⟨[]⟩⟩
def o_53_335 (P : Params) : Obj := ⟨.none, none, (.fields ⟨([] : List Value)⟩), ⟨[]⟩⟩
def o_53_336 (P : Params) : Obj := ⟨(.type "tuple"), none, (.seq ⟨(([(.str "operand" 622)] : List Value))⟩ 0), ⟨[]⟩⟩
def o_53_337 (P : Params) : Obj := ⟨(.type "tuple"), none, (.seq ⟨([] : List Value)⟩ 0), ⟨[]⟩⟩
def o_53_338 (P : Params) : Obj := ⟨.none, none, (.func ⟨"decimal_of", "decimal_of", defArgs (top 34), .stmts (defBody (top 34)), defScope (top 34), 0, [], .none, .none, .none, .none, none, .none, .none, 0⟩), ⟨[]⟩⟩
def o_53_339 (P : Params) : Obj := ⟨(.type "code"), none, (.fields ⟨(([(.str "decimal_of" 619), (.str "decimal_of" 620), (.str "/claim/cut.py" 621), (.int (115) 0), (.int (1) 0), (.int (0) 0), (.int (0) 0), (.int (3) 0), (.ref 334), (.bool true), (.int (181) 0), (.ref 335)] : List Value) ++ ([.none, (.ref 336), (.ref 337), (.ref 338), (.int (623) 0), (.int (115) 0), (.str "/claim/cut.py" 624)] : List Value))⟩), ⟨[]⟩⟩
def o_53_340 (P : Params) : Obj := ⟨(.type "function"), none, (.func ⟨"decimal_of", "decimal_of", defArgs (top 34), .stmts (defBody (top 34)), defScope (top 34), 3, [], .none, .none, .none, (.str "tenwhole.decimals" 500), none, (.ref 339), .none, 0⟩), ⟨[]⟩⟩
def o_53_341 (P : Params) : Obj := ⟨(.type "tuple"), none, (.seq ⟨([] : List Value)⟩ 0), ⟨[]⟩⟩
def o_53_342 (P : Params) : Obj := ⟨.none, none, (.fields ⟨([] : List Value)⟩), ⟨[]⟩⟩
def o_53_343 (P : Params) : Obj := ⟨(.type "tuple"), none, (.seq ⟨(([(.str "sign" 629)] : List Value))⟩ 0), ⟨[]⟩⟩
def o_53_344 (P : Params) : Obj := ⟨(.type "tuple"), none, (.seq ⟨([] : List Value)⟩ 0), ⟨[]⟩⟩
def o_53_345 (P : Params) : Obj := ⟨.none, none, (.func ⟨"infinity", "infinity", defArgs (top 35), .stmts (defBody (top 35)), defScope (top 35), 0, [], .none, .none, .none, .none, none, .none, .none, 0⟩), ⟨[]⟩⟩
def o_53_346 (P : Params) : Obj := ⟨(.type "code"), none, (.fields ⟨(([(.str "infinity" 626), (.str "infinity" 627), (.str "/claim/cut.py" 628), (.int (121) 0), (.int (1) 0), (.int (0) 0), (.int (0) 0), (.int (3) 0), (.ref 341), (.bool true), (.int (181) 0), (.ref 342)] : List Value) ++ ([.none, (.ref 343), (.ref 344), (.ref 345), (.int (630) 0), (.int (121) 0), (.str "/claim/cut.py" 631)] : List Value))⟩), ⟨[]⟩⟩
def o_53_347 (P : Params) : Obj := ⟨(.type "function"), none, (.func ⟨"infinity", "infinity", defArgs (top 35), .stmts (defBody (top 35)), defScope (top 35), 3, [], .none, .none, .none, (.str "tenwhole.decimals" 500), none, (.ref 346), .none, 0⟩), ⟨[]⟩⟩
def o_53_348 (P : Params) : Obj := ⟨(.type "tuple"), none, (.seq ⟨([] : List Value)⟩ 0), ⟨[]⟩⟩
def o_53_349 (P : Params) : Obj := ⟨.none, none, (.fields ⟨([] : List Value)⟩), ⟨[]⟩⟩
def o_53_350 (P : Params) : Obj := ⟨(.type "tuple"), none, (.seq ⟨([] : List Value)⟩ 0), ⟨[]⟩⟩
def o_53_351 (P : Params) : Obj := ⟨(.type "tuple"), none, (.seq ⟨([] : List Value)⟩ 0), ⟨[]⟩⟩
def o_53_352 (P : Params) : Obj := ⟨.none, none, (.func ⟨"plain_nan", "plain_nan", defArgs (top 36), .stmts (defBody (top 36)), defScope (top 36), 0, [], .none, .none, .none, .none, none, .none, .none, 0⟩), ⟨[]⟩⟩
def o_53_353 (P : Params) : Obj := ⟨(.type "code"), none, (.fields ⟨(([(.str "plain_nan" 633), (.str "plain_nan" 634), (.str "/claim/cut.py" 635), (.int (123) 0), (.int (0) 0), (.int (0) 0), (.int (0) 0), (.int (3) 0), (.ref 348), (.bool true), (.int (181) 0), (.ref 349)] : List Value) ++ ([.none, (.ref 350), (.ref 351), (.ref 352), (.int (636) 0), (.int (123) 0), (.str "/claim/cut.py" 637)] : List Value))⟩), ⟨[]⟩⟩
def o_53_354 (P : Params) : Obj := ⟨(.type "function"), none, (.func ⟨"plain_nan", "plain_nan", defArgs (top 36), .stmts (defBody (top 36)), defScope (top 36), 3, [], .none, .none, .none, (.str "tenwhole.decimals" 500), none, (.ref 353), .none, 0⟩), ⟨[]⟩⟩
def o_53_355 (P : Params) : Obj := ⟨(.type "tuple"), none, (.seq ⟨([] : List Value)⟩ 0), ⟨[]⟩⟩
def o_53_356 (P : Params) : Obj := ⟨.none, none, (.fields ⟨([] : List Value)⟩), ⟨[]⟩⟩
def o_53_357 (P : Params) : Obj := ⟨(.type "tuple"), none, (.seq ⟨(([(.str "many" 642), (.str "found" 643), (.str "base" 644)] : List Value))⟩ 0), ⟨[]⟩⟩
def o_53_358 (P : Params) : Obj := ⟨(.type "tuple"), none, (.seq ⟨([] : List Value)⟩ 0), ⟨[]⟩⟩
def o_53_359 (P : Params) : Obj := ⟨.none, none, (.func ⟨"tens", "tens", defArgs (top 37), .stmts (defBody (top 37)), defScope (top 37), 0, [], .none, .none, .none, .none, none, .none, .none, 0⟩), ⟨[]⟩⟩
def o_53_360 (P : Params) : Obj := ⟨(.type "code"), none, (.fields ⟨(([(.str "tens" 639), (.str "tens" 640), (.str "/claim/cut.py" 641), (.int (125) 0), (.int (1) 0), (.int (0) 0), (.int (0) 0), (.int (3) 0), (.ref 355), (.bool true), (.int (181) 0), (.ref 356)] : List Value) ++ ([.none, (.ref 357), (.ref 358), (.ref 359), (.int (645) 0), (.int (125) 0), (.str "/claim/cut.py" 646)] : List Value))⟩), ⟨[]⟩⟩
def o_53_361 (P : Params) : Obj := ⟨(.type "function"), none, (.func ⟨"tens", "tens", defArgs (top 37), .stmts (defBody (top 37)), defScope (top 37), 3, [], .none, .none, .none, (.str "tenwhole.decimals" 500), none, (.ref 360), .none, 0⟩), ⟨[]⟩⟩
def o_53_362 (P : Params) : Obj := ⟨(.type "tuple"), none, (.seq ⟨([] : List Value)⟩ 0), ⟨[]⟩⟩
def o_53_363 (P : Params) : Obj := ⟨.none, none, (.fields ⟨([] : List Value)⟩), ⟨[]⟩⟩
def o_53_364 (P : Params) : Obj := ⟨(.type "tuple"), none, (.seq ⟨(([(.str "number" 651), (.str "found" 652)] : List Value))⟩ 0), ⟨[]⟩⟩
def o_53_365 (P : Params) : Obj := ⟨(.type "tuple"), none, (.seq ⟨([] : List Value)⟩ 0), ⟨[]⟩⟩
def o_53_366 (P : Params) : Obj := ⟨.none, none, (.func ⟨"count_digits", "count_digits", defArgs (top 38), .stmts (defBody (top 38)), defScope (top 38), 0, [], .none, .none, .none, .none, none, .none, .none, 0⟩), ⟨[]⟩⟩
def o_53_367 (P : Params) : Obj := ⟨(.type "code"), none, (.fields ⟨(([(.str "count_digits" 648), (.str "count_digits" 649), (.str "/claim/cut.py" 650), (.int (132) 0), (.int (1) 0), (.int (0) 0), (.int (0) 0), (.int (3) 0), (.ref 362), (.bool true), (.int (181) 0), (.ref 363)] : List Value) ++ ([.none, (.ref 364), (.ref 365), (.ref 366), (.int (653) 0), (.int (132) 0), (.str "/claim/cut.py" 654)] : List Value))⟩), ⟨[]⟩⟩
def o_53_368 (P : Params) : Obj := ⟨(.type "function"), none, (.func ⟨"count_digits", "count_digits", defArgs (top 38), .stmts (defBody (top 38)), defScope (top 38), 3, [], .none, .none, .none, (.str "tenwhole.decimals" 500), none, (.ref 367), .none, 0⟩), ⟨[]⟩⟩
def o_53_369 (P : Params) : Obj := ⟨(.type "tuple"), none, (.seq ⟨([] : List Value)⟩ 0), ⟨[]⟩⟩
def o_53_370 (P : Params) : Obj := ⟨.none, none, (.fields ⟨([] : List Value)⟩), ⟨[]⟩⟩
def o_53_371 (P : Params) : Obj := ⟨.none, none, (.func ⟨"digits_of", "digits_of", defArgs (top 39), .stmts (defBody (top 39)), defScope (top 39), 0, [], .none, .none, .none, .none, none, .none, .none, 0⟩), ⟨[]⟩⟩
def o_53_372 (P : Params) : Obj := ⟨(.type "code"), none, (.fields ⟨(([(.str "digits_of" 656), (.str "digits_of" 657), (.str "/claim/cut.py" 658), (.int (138) 0), (.int (1) 0), (.int (0) 0), (.int (0) 0), (.int (3) 0), (.ref 369), (.bool true), (.int (181) 0), (.ref 370)] : List Value) ++ ([.none, .none, .none, (.ref 371), (.int (659) 0), (.int (138) 0), (.str "/claim/cut.py" 660)] : List Value))⟩), ⟨[]⟩⟩
def o_53_373 (P : Params) : Obj := ⟨(.type "function"), none, (.func ⟨"digits_of", "digits_of", defArgs (top 39), .stmts (defBody (top 39)), defScope (top 39), 3, [], .none, .none, .none, (.str "tenwhole.decimals" 500), none, (.ref 372), .none, 0⟩), ⟨[]⟩⟩
def o_53_374 (P : Params) : Obj := ⟨(.type "tuple"), none, (.seq ⟨([] : List Value)⟩ 0), ⟨[]⟩⟩
def o_53_375 (P : Params) : Obj := ⟨.none, none, (.fields ⟨([] : List Value)⟩), ⟨[]⟩⟩
def o_53_376 (P : Params) : Obj := ⟨(.type "tuple"), none, (.seq ⟨(([(.str "a" 665), (.str "b" 666), (.str "first" 667), (.str "second" 668)] : List Value))⟩ 0), ⟨[]⟩⟩
def o_53_377 (P : Params) : Obj := ⟨(.type "tuple"), none, (.seq ⟨([] : List Value)⟩ 0), ⟨[]⟩⟩
def o_53_378 (P : Params) : Obj := ⟨.none, none, (.func ⟨"order_of", "order_of", defArgs (top 40), .stmts (defBody (top 40)), defScope (top 40), 0, [], .none, .none, .none, .none, none, .none, .none, 0⟩), ⟨[]⟩⟩
def o_53_379 (P : Params) : Obj := ⟨(.type "code"), none, (.fields ⟨(([(.str "order_of" 662), (.str "order_of" 663), (.str "/claim/cut.py" 664), (.int (145) 0), (.int (2) 0), (.int (0) 0), (.int (0) 0), (.int (3) 0), (.ref 374), (.bool true), (.int (181) 0), (.ref 375)] : List Value) ++ ([.none, (.ref 376), (.ref 377), (.ref 378), (.int (669) 0), (.int (145) 0), (.str "/claim/cut.py" 670)] : List Value))⟩), ⟨[]⟩⟩
def o_53_380 (P : Params) : Obj := ⟨(.type "function"), none, (.func ⟨"order_of", "order_of", defArgs (top 40), .stmts (defBody (top 40)), defScope (top 40), 3, [], .none, .none, .none, (.str "tenwhole.decimals" 500), none, (.ref 379), .none, 0⟩), ⟨[]⟩⟩
def o_53_381 (P : Params) : Obj := ⟨(.type "tuple"), none, (.seq ⟨([] : List Value)⟩ 0), ⟨[]⟩⟩
def o_53_382 (P : Params) : Obj := ⟨.none, none, (.fields ⟨([] : List Value)⟩), ⟨[]⟩⟩
def o_53_383 (P : Params) : Obj := ⟨(.type "tuple"), none, (.seq ⟨(([(.str "a" 675), (.str "found" 676)] : List Value))⟩ 0), ⟨[]⟩⟩
def o_53_384 (P : Params) : Obj := ⟨(.type "tuple"), none, (.seq ⟨([] : List Value)⟩ 0), ⟨[]⟩⟩
def o_53_385 (P : Params) : Obj := ⟨.none, none, (.func ⟨"side_of", "side_of", defArgs (top 41), .stmts (defBody (top 41)), defScope (top 41), 0, [], .none, .none, .none, .none, none, .none, .none, 0⟩), ⟨[]⟩⟩
def o_53_386 (P : Params) : Obj := ⟨(.type "code"), none, (.fields ⟨(([(.str "side_of" 672), (.str "side_of" 673), (.str "/claim/cut.py" 674), (.int (154) 0), (.int (1) 0), (.int (0) 0), (.int (0) 0), (.int (3) 0), (.ref 381), (.bool true), (.int (181) 0), (.ref 382)] : List Value) ++ ([.none, (.ref 383), (.ref 384), (.ref 385), (.int (677) 0), (.int (154) 0), (.str "/claim/cut.py" 678)] : List Value))⟩), ⟨[]⟩⟩
def o_53_387 (P : Params) : Obj := ⟨(.type "function"), none, (.func ⟨"side_of", "side_of", defArgs (top 41), .stmts (defBody (top 41)), defScope (top 41), 3, [], .none, .none, .none, (.str "tenwhole.decimals" 500), none, (.ref 386), .none, 0⟩), ⟨[]⟩⟩
def o_53_388 (P : Params) : Obj := ⟨(.type "tuple"), none, (.seq ⟨([] : List Value)⟩ 0), ⟨[]⟩⟩
def o_53_389 (P : Params) : Obj := ⟨.none, none, (.fields ⟨([] : List Value)⟩), ⟨[]⟩⟩
def o_53_390 (P : Params) : Obj := ⟨(.type "tuple"), none, (.seq ⟨(([(.str "a" 683), (.str "b" 684), (.str "shift" 685), (.str "one" 686), (.str "other" 687)] : List Value))⟩ 0), ⟨[]⟩⟩
def o_53_391 (P : Params) : Obj := ⟨(.type "tuple"), none, (.seq ⟨([] : List Value)⟩ 0), ⟨[]⟩⟩
def o_53_392 (P : Params) : Obj := ⟨.none, none, (.func ⟨"size_order", "size_order", defArgs (top 42), .stmts (defBody (top 42)), defScope (top 42), 0, [], .none, .none, .none, .none, none, .none, .none, 0⟩), ⟨[]⟩⟩
def o_53_393 (P : Params) : Obj := ⟨(.type "code"), none, (.fields ⟨(([(.str "size_order" 680), (.str "size_order" 681), (.str "/claim/cut.py" 682), (.int (157) 0), (.int (2) 0), (.int (0) 0), (.int (0) 0), (.int (3) 0), (.ref 388), (.bool true), (.int (181) 0), (.ref 389)] : List Value) ++ ([.none, (.ref 390), (.ref 391), (.ref 392), (.int (688) 0), (.int (157) 0), (.str "/claim/cut.py" 689)] : List Value))⟩), ⟨[]⟩⟩
def o_53_394 (P : Params) : Obj := ⟨(.type "function"), none, (.func ⟨"size_order", "size_order", defArgs (top 42), .stmts (defBody (top 42)), defScope (top 42), 3, [], .none, .none, .none, (.str "tenwhole.decimals" 500), none, (.ref 393), .none, 0⟩), ⟨[]⟩⟩
def o_53_395 (P : Params) : Obj := ⟨(.type "tuple"), none, (.seq ⟨([] : List Value)⟩ 0), ⟨[]⟩⟩
def o_53_396 (P : Params) : Obj := ⟨(.type "builtin_function_or_method"), none, (.fields ⟨(([(.builtin "type.__prepare__"), (.type "type")] : List Value))⟩), ⟨[]⟩⟩
def o_53_397 (P : Params) : Obj := ⟨(.type "dict"), none, (.dict ⟨(([⟨PyData.keyHash P "__module__", (.str "__module__" 700), (.str "tenwhole.finishing" 691)⟩, ⟨PyData.keyHash P "__qualname__", (.str "__qualname__" 702), (.str "Rules" 701)⟩, ⟨PyData.keyHash P "__firstlineno__", (.str "__firstlineno__" 704), (.int (165) 703)⟩, ⟨PyData.keyHash P "__init__", (.str "__init__" 716), (.ref 408)⟩, ⟨PyData.keyHash P "etiny", (.str "etiny" 723), (.ref 415)⟩, ⟨PyData.keyHash P "etop", (.str "etop" 730), (.ref 422)⟩, ⟨PyData.keyHash P "turned_to", (.str "turned_to" 738), (.ref 429)⟩, ⟨PyData.keyHash P "__static_attributes__", (.str "__static_attributes__" 744), (.ref 430)⟩] : List DictEntry))⟩ 8), ⟨[]⟩⟩
def o_53_398 (P : Params) : Obj := ⟨(.type "tuple"), none, (.seq ⟨([] : List Value)⟩ 0), ⟨[]⟩⟩
def o_53_399 (P : Params) : Obj := ⟨.none, none, (.fields ⟨(([(.int (167) 0), (.int (4) 0), (.ref 407), (.int (174) 0), (.int (4) 0), (.ref 414), (.int (177) 0), (.int (4) 0), (.ref 421), (.int (180) 0), (.int (4) 0), (.ref 428)] : List Value))⟩), ⟨[]⟩⟩
def o_53_400 (P : Params) : Obj := ⟨(.type "code"), none, (.fields ⟨(([(.str "Rules" 695), (.str "Rules" 696), (.str "/claim/cut.py" 697), (.int (165) 0), (.int (0) 0), (.int (0) 0), (.int (0) 0), (.int (0) 0), (.ref 398), (.bool false), (.int (181) 0), (.ref 399)] : List Value) ++ ([.none, .none, .none, .none, (.int (698) 0), (.int (165) 0), (.str "/claim/cut.py" 699)] : List Value))⟩), ⟨[]⟩⟩
def o_53_401 (P : Params) : Obj := ⟨(.type "frame"), none, .plain, ⟨[(some (.ref 400)), (some (.ref 3)), (some (.ref 397)), none, (some (.str "tenwhole.finishing" 691)), none, (some (.ref 0))]⟩⟩
def o_53_402 (P : Params) : Obj := ⟨(.type "tuple"), none, (.seq ⟨([] : List Value)⟩ 0), ⟨[]⟩⟩
def o_53_403 (P : Params) : Obj := ⟨.none, none, (.fields ⟨([] : List Value)⟩), ⟨[]⟩⟩
def o_53_404 (P : Params) : Obj := ⟨(.type "tuple"), none, (.seq ⟨(([(.str "self" 708), (.str "prec" 709), (.str "rounding" 710), (.str "emin" 711), (.str "emax" 712), (.str "clamp" 713)] : List Value))⟩ 0), ⟨[]⟩⟩
def o_53_405 (P : Params) : Obj := ⟨(.type "tuple"), none, (.seq ⟨([] : List Value)⟩ 0), ⟨[]⟩⟩
def o_53_406 (P : Params) : Obj := ⟨.none, none, (.func ⟨"__init__", "Rules.__init__", defArgs (inClass (top 44) 0), .stmts (defBody (inClass (top 44) 0)), defScope (inClass (top 44) 0), 0, [], .none, .none, .none, .none, none, .none, .none, 0⟩), ⟨[]⟩⟩
def o_53_407 (P : Params) : Obj := ⟨(.type "code"), none, (.fields ⟨(([(.str "__init__" 705), (.str "Rules.__init__" 706), (.str "/claim/cut.py" 707), (.int (167) 0), (.int (6) 0), (.int (0) 0), (.int (0) 0), (.int (3) 0), (.ref 402), (.bool true), (.int (181) 0), (.ref 403)] : List Value) ++ ([.none, (.ref 404), (.ref 405), (.ref 406), (.int (714) 0), (.int (167) 0), (.str "/claim/cut.py" 715)] : List Value))⟩), ⟨[]⟩⟩
def o_53_408 (P : Params) : Obj := ⟨(.type "function"), none, (.func ⟨"__init__", "Rules.__init__", defArgs (inClass (top 44) 0), .stmts (defBody (inClass (top 44) 0)), defScope (inClass (top 44) 0), 3, [], .none, .none, .none, (.str "tenwhole.finishing" 691), none, (.ref 407), .none, 0⟩), ⟨[]⟩⟩
def o_53_409 (P : Params) : Obj := ⟨(.type "tuple"), none, (.seq ⟨([] : List Value)⟩ 0), ⟨[]⟩⟩
def o_53_410 (P : Params) : Obj := ⟨.none, none, (.fields ⟨([] : List Value)⟩), ⟨[]⟩⟩
def o_53_411 (P : Params) : Obj := ⟨(.type "tuple"), none, (.seq ⟨(([(.str "self" 720)] : List Value))⟩ 0), ⟨[]⟩⟩
def o_53_412 (P : Params) : Obj := ⟨(.type "tuple"), none, (.seq ⟨([] : List Value)⟩ 0), ⟨[]⟩⟩
def o_53_413 (P : Params) : Obj := ⟨.none, none, (.func ⟨"etiny", "Rules.etiny", defArgs (inClass (top 44) 1), .stmts (defBody (inClass (top 44) 1)), defScope (inClass (top 44) 1), 0, [], .none, .none, .none, .none, none, .none, .none, 0⟩), ⟨[]⟩⟩
def o_53_414 (P : Params) : Obj := ⟨(.type "code"), none, (.fields ⟨(([(.str "etiny" 717), (.str "Rules.etiny" 718), (.str "/claim/cut.py" 719), (.int (174) 0), (.int (1) 0), (.int (0) 0), (.int (0) 0), (.int (3) 0), (.ref 409), (.bool true), (.int (181) 0), (.ref 410)] : List Value) ++ ([.none, (.ref 411), (.ref 412), (.ref 413), (.int (721) 0), (.int (174) 0), (.str "/claim/cut.py" 722)] : List Value))⟩), ⟨[]⟩⟩
def o_53_415 (P : Params) : Obj := ⟨(.type "function"), none, (.func ⟨"etiny", "Rules.etiny", defArgs (inClass (top 44) 1), .stmts (defBody (inClass (top 44) 1)), defScope (inClass (top 44) 1), 3, [], .none, .none, .none, (.str "tenwhole.finishing" 691), none, (.ref 414), .none, 0⟩), ⟨[]⟩⟩
def o_53_416 (P : Params) : Obj := ⟨(.type "tuple"), none, (.seq ⟨([] : List Value)⟩ 0), ⟨[]⟩⟩
def o_53_417 (P : Params) : Obj := ⟨.none, none, (.fields ⟨([] : List Value)⟩), ⟨[]⟩⟩
def o_53_418 (P : Params) : Obj := ⟨(.type "tuple"), none, (.seq ⟨(([(.str "self" 727)] : List Value))⟩ 0), ⟨[]⟩⟩
def o_53_419 (P : Params) : Obj := ⟨(.type "tuple"), none, (.seq ⟨([] : List Value)⟩ 0), ⟨[]⟩⟩
def o_53_420 (P : Params) : Obj := ⟨.none, none, (.func ⟨"etop", "Rules.etop", defArgs (inClass (top 44) 2), .stmts (defBody (inClass (top 44) 2)), defScope (inClass (top 44) 2), 0, [], .none, .none, .none, .none, none, .none, .none, 0⟩), ⟨[]⟩⟩
def o_53_421 (P : Params) : Obj := ⟨(.type "code"), none, (.fields ⟨(([(.str "etop" 724), (.str "Rules.etop" 725), (.str "/claim/cut.py" 726), (.int (177) 0), (.int (1) 0), (.int (0) 0), (.int (0) 0), (.int (3) 0), (.ref 416), (.bool true), (.int (181) 0), (.ref 417)] : List Value) ++ ([.none, (.ref 418), (.ref 419), (.ref 420), (.int (728) 0), (.int (177) 0), (.str "/claim/cut.py" 729)] : List Value))⟩), ⟨[]⟩⟩
def o_53_422 (P : Params) : Obj := ⟨(.type "function"), none, (.func ⟨"etop", "Rules.etop", defArgs (inClass (top 44) 2), .stmts (defBody (inClass (top 44) 2)), defScope (inClass (top 44) 2), 3, [], .none, .none, .none, (.str "tenwhole.finishing" 691), none, (.ref 421), .none, 0⟩), ⟨[]⟩⟩
def o_53_423 (P : Params) : Obj := ⟨(.type "tuple"), none, (.seq ⟨([] : List Value)⟩ 0), ⟨[]⟩⟩
def o_53_424 (P : Params) : Obj := ⟨.none, none, (.fields ⟨([] : List Value)⟩), ⟨[]⟩⟩
def o_53_425 (P : Params) : Obj := ⟨(.type "tuple"), none, (.seq ⟨(([(.str "self" 734), (.str "rounding" 735)] : List Value))⟩ 0), ⟨[]⟩⟩
def o_53_426 (P : Params) : Obj := ⟨(.type "tuple"), none, (.seq ⟨([] : List Value)⟩ 0), ⟨[]⟩⟩
def o_53_427 (P : Params) : Obj := ⟨.none, none, (.func ⟨"turned_to", "Rules.turned_to", defArgs (inClass (top 44) 3), .stmts (defBody (inClass (top 44) 3)), defScope (inClass (top 44) 3), 0, [], .none, .none, .none, .none, none, .none, .none, 0⟩), ⟨[]⟩⟩
def o_53_428 (P : Params) : Obj := ⟨(.type "code"), none, (.fields ⟨(([(.str "turned_to" 731), (.str "Rules.turned_to" 732), (.str "/claim/cut.py" 733), (.int (180) 0), (.int (2) 0), (.int (0) 0), (.int (0) 0), (.int (3) 0), (.ref 423), (.bool true), (.int (181) 0), (.ref 424)] : List Value) ++ ([.none, (.ref 425), (.ref 426), (.ref 427), (.int (736) 0), (.int (180) 0), (.str "/claim/cut.py" 737)] : List Value))⟩), ⟨[]⟩⟩
def o_53_429 (P : Params) : Obj := ⟨(.type "function"), none, (.func ⟨"turned_to", "Rules.turned_to", defArgs (inClass (top 44) 3), .stmts (defBody (inClass (top 44) 3)), defScope (inClass (top 44) 3), 3, [], .none, .none, .none, (.str "tenwhole.finishing" 691), none, (.ref 428), .none, 0⟩), ⟨[]⟩⟩
def o_53_430 (P : Params) : Obj := ⟨(.type "tuple"), none, (.seq ⟨(([(.str "clamp" 739), (.str "emax" 740), (.str "emin" 741), (.str "prec" 742), (.str "rounding" 743)] : List Value))⟩ 0), ⟨[]⟩⟩
def o_53_431 (P : Params) : Obj := ⟨(.type "dict"), none, (.dict ⟨(([⟨PyData.keyHash P "__module__", (.str "__module__" 700), (.str "tenwhole.finishing" 691)⟩, ⟨PyData.keyHash P "__firstlineno__", (.str "__firstlineno__" 704), (.int (165) 703)⟩, ⟨PyData.keyHash P "__init__", (.str "__init__" 716), (.ref 408)⟩, ⟨PyData.keyHash P "etiny", (.str "etiny" 723), (.ref 415)⟩, ⟨PyData.keyHash P "etop", (.str "etop" 730), (.ref 422)⟩, ⟨PyData.keyHash P "turned_to", (.str "turned_to" 738), (.ref 429)⟩, ⟨PyData.keyHash P "__static_attributes__", (.str "__static_attributes__" 744), (.ref 430)⟩, ⟨PyData.keyHash P "__dict__", (.str "__dict__" 746), (.ref 433)⟩, ⟨PyData.keyHash P "__weakref__", (.str "__weakref__" 748), (.ref 434)⟩, ⟨PyData.keyHash P "__doc__", (.str "__doc__" 749), .none⟩] : List DictEntry))⟩ 4), ⟨[]⟩⟩
def o_53_432 (P : Params) : Obj := ⟨(.type "type"), none, (.cls ⟨"Rules", [(.type "object")], [(.ref 432), (.type "object")], 431, "Rules", true, [], ([] : List Value), false, none, false⟩), ⟨[none, none, (some (.str "Rules" 693)), (some (.str "Rules" 701)), (some (.builtin "object.__new__")), (some (.bool true))]⟩⟩
def o_53_433 (P : Params) : Obj := ⟨(.type "getset_descriptor"), none, (.fields ⟨(([(.str "__dict__" 745), (.ref 432), (.builtin "function.__dict__"), (.builtin "function.__dict__#set")] : List Value))⟩), ⟨[]⟩⟩
def o_53_434 (P : Params) : Obj := ⟨(.type "getset_descriptor"), none, (.fields ⟨(([(.str "__weakref__" 747), (.ref 432), (.builtin "ExceptionGroup.__weakref__"), .none] : List Value))⟩), ⟨[]⟩⟩
def o_53_435 (P : Params) : Obj := ⟨(.type "super"), none, (.fields ⟨(([(.ref 432), (.ref 432), (.ref 432)] : List Value))⟩), ⟨[]⟩⟩
def o_53_436 (P : Params) : Obj := ⟨(.type "builtin_function_or_method"), none, (.fields ⟨(([(.builtin "object.__init_subclass__"), (.ref 432)] : List Value))⟩), ⟨[]⟩⟩
def o_53_437 (P : Params) : Obj := ⟨(.type "tuple"), none, (.seq ⟨([] : List Value)⟩ 0), ⟨[]⟩⟩
def o_53_438 (P : Params) : Obj := ⟨.none, none, (.fields ⟨([] : List Value)⟩), ⟨[]⟩⟩
def o_53_439 (P : Params) : Obj := ⟨(.type "tuple"), none, (.seq ⟨(([(.str "rounding" 755), (.str "sign" 756), (.str "left" 757), (.str "side" 758)] : List Value))⟩ 0), ⟨[]⟩⟩
def o_53_440 (P : Params) : Obj := ⟨(.type "tuple"), none, (.seq ⟨([] : List Value)⟩ 0), ⟨[]⟩⟩
def o_53_441 (P : Params) : Obj := ⟨.none, none, (.func ⟨"goes_up", "goes_up", defArgs (top 45), .stmts (defBody (top 45)), defScope (top 45), 0, [], .none, .none, .none, .none, none, .none, .none, 0⟩), ⟨[]⟩⟩
def o_53_442 (P : Params) : Obj := ⟨(.type "code"), none, (.fields ⟨(([(.str "goes_up" 752), (.str "goes_up" 753), (.str "/claim/cut.py" 754), (.int (182) 0), (.int (4) 0), (.int (0) 0), (.int (0) 0), (.int (3) 0), (.ref 437), (.bool true), (.int (181) 0), (.ref 438)] : List Value) ++ ([.none, (.ref 439), (.ref 440), (.ref 441), (.int (759) 0), (.int (182) 0), (.str "/claim/cut.py" 760)] : List Value))⟩), ⟨[]⟩⟩
def o_53_443 (P : Params) : Obj := ⟨(.type "function"), none, (.func ⟨"goes_up", "goes_up", defArgs (top 45), .stmts (defBody (top 45)), defScope (top 45), 3, [], .none, .none, .none, (.str "tenwhole.finishing" 691), none, (.ref 442), .none, 0⟩), ⟨[]⟩⟩
def o_53_444 (P : Params) : Obj := ⟨(.type "tuple"), none, (.seq ⟨([] : List Value)⟩ 0), ⟨[]⟩⟩
def o_53_445 (P : Params) : Obj := ⟨.none, none, (.fields ⟨([] : List Value)⟩), ⟨[]⟩⟩
def o_53_446 (P : Params) : Obj := ⟨(.type "tuple"), none, (.seq ⟨(([(.str "rounding" 765), (.str "sign" 766), (.str "coefficient" 767), (.str "cut" 768), (.str "left" 769), (.str "is_inexact" 770), (.str "side" 771), (.str "unit" 772), (.str "rest" 773)] : List Value))⟩ 0), ⟨[]⟩⟩
def o_53_447 (P : Params) : Obj := ⟨(.type "tuple"), none, (.seq ⟨([] : List Value)⟩ 0), ⟨[]⟩⟩
def o_53_448 (P : Params) : Obj := ⟨.none, none, (.func ⟨"rounded_parts", "rounded_parts", defArgs (top 46), .stmts (defBody (top 46)), defScope (top 46), 0, [], .none, .none, .none, .none, none, .none, .none, 0⟩), ⟨[]⟩⟩
def o_53_449 (P : Params) : Obj := ⟨(.type "code"), none, (.fields ⟨(([(.str "rounded_parts" 762), (.str "rounded_parts" 763), (.str "/claim/cut.py" 764), (.int (188) 0), (.int (4) 0), (.int (0) 0), (.int (0) 0), (.int (3) 0), (.ref 444), (.bool true), (.int (181) 0), (.ref 445)] : List Value) ++ ([.none, (.ref 446), (.ref 447), (.ref 448), (.int (774) 0), (.int (188) 0), (.str "/claim/cut.py" 775)] : List Value))⟩), ⟨[]⟩⟩
def o_53_450 (P : Params) : Obj := ⟨(.type "function"), none, (.func ⟨"rounded_parts", "rounded_parts", defArgs (top 46), .stmts (defBody (top 46)), defScope (top 46), 3, [], .none, .none, .none, (.str "tenwhole.finishing" 691), none, (.ref 449), .none, 0⟩), ⟨[]⟩⟩
def o_53_451 (P : Params) : Obj := ⟨(.type "tuple"), none, (.seq ⟨([] : List Value)⟩ 0), ⟨[]⟩⟩
def o_53_452 (P : Params) : Obj := ⟨.none, none, (.fields ⟨([] : List Value)⟩), ⟨[]⟩⟩
def o_53_453 (P : Params) : Obj := ⟨(.type "tuple"), none, (.seq ⟨(([(.str "rules" 780), (.str "sign" 781), (.str "words" 782), (.str "to_infinity" 783)] : List Value))⟩ 0), ⟨[]⟩⟩
def o_53_454 (P : Params) : Obj := ⟨(.type "tuple"), none, (.seq ⟨([] : List Value)⟩ 0), ⟨[]⟩⟩
def o_53_455 (P : Params) : Obj := ⟨.none, none, (.func ⟨"overflow", "overflow", defArgs (top 47), .stmts (defBody (top 47)), defScope (top 47), 0, [], .none, .none, .none, .none, none, .none, .none, 0⟩), ⟨[]⟩⟩
def o_53_456 (P : Params) : Obj := ⟨(.type "code"), none, (.fields ⟨(([(.str "overflow" 777), (.str "overflow" 778), (.str "/claim/cut.py" 779), (.int (198) 0), (.int (2) 0), (.int (0) 0), (.int (0) 0), (.int (3) 0), (.ref 451), (.bool true), (.int (181) 0), (.ref 452)] : List Value) ++ ([.none, (.ref 453), (.ref 454), (.ref 455), (.int (784) 0), (.int (198) 0), (.str "/claim/cut.py" 785)] : List Value))⟩), ⟨[]⟩⟩
def o_53_457 (P : Params) : Obj := ⟨(.type "function"), none, (.func ⟨"overflow", "overflow", defArgs (top 47), .stmts (defBody (top 47)), defScope (top 47), 3, [], .none, .none, .none, (.str "tenwhole.finishing" 691), none, (.ref 456), .none, 0⟩), ⟨[]⟩⟩
def o_53_458 (P : Params) : Obj := ⟨(.type "tuple"), none, (.seq ⟨([] : List Value)⟩ 0), ⟨[]⟩⟩
def o_53_459 (P : Params) : Obj := ⟨.none, none, (.fields ⟨([] : List Value)⟩), ⟨[]⟩⟩
def o_53_460 (P : Params) : Obj := ⟨(.type "tuple"), none, (.seq ⟨(([(.str "rules" 790), (.str "sign" 791), (.str "exponent" 792), (.str "top" 793), (.str "moved" 794)] : List Value))⟩ 0), ⟨[]⟩⟩
def o_53_461 (P : Params) : Obj := ⟨(.type "tuple"), none, (.seq ⟨([] : List Value)⟩ 0), ⟨[]⟩⟩
def o_53_462 (P : Params) : Obj := ⟨.none, none, (.func ⟨"finish_zero", "finish_zero", defArgs (top 48), .stmts (defBody (top 48)), defScope (top 48), 0, [], .none, .none, .none, .none, none, .none, .none, 0⟩), ⟨[]⟩⟩
def o_53_463 (P : Params) : Obj := ⟨(.type "code"), none, (.fields ⟨(([(.str "finish_zero" 787), (.str "finish_zero" 788), (.str "/claim/cut.py" 789), (.int (204) 0), (.int (3) 0), (.int (0) 0), (.int (0) 0), (.int (3) 0), (.ref 458), (.bool true), (.int (181) 0), (.ref 459)] : List Value) ++ ([.none, (.ref 460), (.ref 461), (.ref 462), (.int (795) 0), (.int (204) 0), (.str "/claim/cut.py" 796)] : List Value))⟩), ⟨[]⟩⟩
def o_53_464 (P : Params) : Obj := ⟨(.type "function"), none, (.func ⟨"finish_zero", "finish_zero", defArgs (top 48), .stmts (defBody (top 48)), defScope (top 48), 3, [], .none, .none, .none, (.str "tenwhole.finishing" 691), none, (.ref 463), .none, 0⟩), ⟨[]⟩⟩
def o_53_465 (P : Params) : Obj := ⟨(.type "tuple"), none, (.seq ⟨([] : List Value)⟩ 0), ⟨[]⟩⟩
def o_53_466 (P : Params) : Obj := ⟨.none, none, (.fields ⟨([] : List Value)⟩), ⟨[]⟩⟩
def o_53_467 (P : Params) : Obj := ⟨(.type "tuple"), none, (.seq ⟨(([(.str "rules" 801), (.str "sign" 802), (.str "coefficient" 803), (.str "exponent" 804), (.str "least" 805), (.str "is_small" 806), (.str "left" 807), (.str "is_inexact" 808), (.str "words" 809)] : List Value))⟩ 0), ⟨[]⟩⟩
def o_53_468 (P : Params) : Obj := ⟨(.type "tuple"), none, (.seq ⟨([] : List Value)⟩ 0), ⟨[]⟩⟩
def o_53_469 (P : Params) : Obj := ⟨.none, none, (.func ⟨"finish_cut", "finish_cut", defArgs (top 49), .stmts (defBody (top 49)), defScope (top 49), 0, [], .none, .none, .none, .none, none, .none, .none, 0⟩), ⟨[]⟩⟩
def o_53_470 (P : Params) : Obj := ⟨(.type "code"), none, (.fields ⟨(([(.str "finish_cut" 798), (.str "finish_cut" 799), (.str "/claim/cut.py" 800), (.int (208) 0), (.int (5) 0), (.int (0) 0), (.int (0) 0), (.int (3) 0), (.ref 465), (.bool true), (.int (181) 0), (.ref 466)] : List Value) ++ ([.none, (.ref 467), (.ref 468), (.ref 469), (.int (810) 0), (.int (208) 0), (.str "/claim/cut.py" 811)] : List Value))⟩), ⟨[]⟩⟩
def o_53_471 (P : Params) : Obj := ⟨(.type "function"), none, (.func ⟨"finish_cut", "finish_cut", defArgs (top 49), .stmts (defBody (top 49)), defScope (top 49), 3, [], .none, .none, .none, (.str "tenwhole.finishing" 691), none, (.ref 470), .none, 0⟩), ⟨[]⟩⟩
def o_53_472 (P : Params) : Obj := ⟨(.type "tuple"), none, (.seq ⟨([] : List Value)⟩ 0), ⟨[]⟩⟩
def o_53_473 (P : Params) : Obj := ⟨.none, none, (.fields ⟨([] : List Value)⟩), ⟨[]⟩⟩
def o_53_474 (P : Params) : Obj := ⟨(.type "tuple"), none, (.seq ⟨(([(.str "rules" 816), (.str "sign" 817), (.str "coefficient" 818), (.str "exponent" 819), (.str "first" 820), (.str "least" 821), (.str "words" 822), (.str "number" 823)] : List Value))⟩ 0), ⟨[]⟩⟩
def o_53_475 (P : Params) : Obj := ⟨(.type "tuple"), none, (.seq ⟨([] : List Value)⟩ 0), ⟨[]⟩⟩
def o_53_476 (P : Params) : Obj := ⟨.none, none, (.func ⟨"finish_parts", "finish_parts", defArgs (top 50), .stmts (defBody (top 50)), defScope (top 50), 0, [], .none, .none, .none, .none, none, .none, .none, 0⟩), ⟨[]⟩⟩
def o_53_477 (P : Params) : Obj := ⟨(.type "code"), none, (.fields ⟨(([(.str "finish_parts" 813), (.str "finish_parts" 814), (.str "/claim/cut.py" 815), (.int (219) 0), (.int (4) 0), (.int (0) 0), (.int (0) 0), (.int (3) 0), (.ref 472), (.bool true), (.int (181) 0), (.ref 473)] : List Value) ++ ([.none, (.ref 474), (.ref 475), (.ref 476), (.int (824) 0), (.int (219) 0), (.str "/claim/cut.py" 825)] : List Value))⟩), ⟨[]⟩⟩
def o_53_478 (P : Params) : Obj := ⟨(.type "function"), none, (.func ⟨"finish_parts", "finish_parts", defArgs (top 50), .stmts (defBody (top 50)), defScope (top 50), 3, [], .none, .none, .none, (.str "tenwhole.finishing" 691), none, (.ref 477), .none, 0⟩), ⟨[]⟩⟩
def o_53_479 (P : Params) : Obj := ⟨(.type "tuple"), none, (.seq ⟨([] : List Value)⟩ 0), ⟨[]⟩⟩
def o_53_480 (P : Params) : Obj := ⟨.none, none, (.fields ⟨([] : List Value)⟩), ⟨[]⟩⟩
def o_53_481 (P : Params) : Obj := ⟨(.type "tuple"), none, (.seq ⟨(([(.str "rules" 830), (.str "sign" 831), (.str "coefficient" 832), (.str "exponent" 833)] : List Value))⟩ 0), ⟨[]⟩⟩
def o_53_482 (P : Params) : Obj := ⟨(.type "tuple"), none, (.seq ⟨([] : List Value)⟩ 0), ⟨[]⟩⟩
def o_53_483 (P : Params) : Obj := ⟨.none, none, (.func ⟨"finish_endless", "finish_endless", defArgs (top 51), .stmts (defBody (top 51)), defScope (top 51), 0, [], .none, .none, .none, .none, none, .none, .none, 0⟩), ⟨[]⟩⟩
def o_53_484 (P : Params) : Obj := ⟨(.type "code"), none, (.fields ⟨(([(.str "finish_endless" 827), (.str "finish_endless" 828), (.str "/claim/cut.py" 829), (.int (233) 0), (.int (4) 0), (.int (0) 0), (.int (0) 0), (.int (3) 0), (.ref 479), (.bool true), (.int (181) 0), (.ref 480)] : List Value) ++ ([.none, (.ref 481), (.ref 482), (.ref 483), (.int (834) 0), (.int (233) 0), (.str "/claim/cut.py" 835)] : List Value))⟩), ⟨[]⟩⟩
def o_53_485 (P : Params) : Obj := ⟨(.type "function"), none, (.func ⟨"finish_endless", "finish_endless", defArgs (top 51), .stmts (defBody (top 51)), defScope (top 51), 3, [], .none, .none, .none, (.str "tenwhole.finishing" 691), none, (.ref 484), .none, 0⟩), ⟨[]⟩⟩
def o_53_486 (P : Params) : Obj := ⟨(.type "tuple"), none, (.seq ⟨([] : List Value)⟩ 0), ⟨[]⟩⟩
def o_53_487 (P : Params) : Obj := ⟨.none, none, (.fields ⟨([] : List Value)⟩), ⟨[]⟩⟩
def o_53_488 (P : Params) : Obj := ⟨(.type "tuple"), none, (.seq ⟨(([(.str "rules" 840), (.str "payload" 841), (.str "most" 842)] : List Value))⟩ 0), ⟨[]⟩⟩
def o_53_489 (P : Params) : Obj := ⟨(.type "tuple"), none, (.seq ⟨([] : List Value)⟩ 0), ⟨[]⟩⟩
def o_53_490 (P : Params) : Obj := ⟨.none, none, (.func ⟨"kept_digits", "kept_digits", defArgs (top 52), .stmts (defBody (top 52)), defScope (top 52), 0, [], .none, .none, .none, .none, none, .none, .none, 0⟩), ⟨[]⟩⟩
def o_53_491 (P : Params) : Obj := ⟨(.type "code"), none, (.fields ⟨(([(.str "kept_digits" 837), (.str "kept_digits" 838), (.str "/claim/cut.py" 839), (.int (235) 0), (.int (2) 0), (.int (0) 0), (.int (0) 0), (.int (3) 0), (.ref 486), (.bool true), (.int (181) 0), (.ref 487)] : List Value) ++ ([.none, (.ref 488), (.ref 489), (.ref 490), (.int (843) 0), (.int (235) 0), (.str "/claim/cut.py" 844)] : List Value))⟩), ⟨[]⟩⟩
def o_53_492 (P : Params) : Obj := ⟨(.type "function"), none, (.func ⟨"kept_digits", "kept_digits", defArgs (top 52), .stmts (defBody (top 52)), defScope (top 52), 3, [], .none, .none, .none, (.str "tenwhole.finishing" 691), none, (.ref 491), .none, 0⟩), ⟨[]⟩⟩
def l_53 (P : Params) : List (Nat × Obj) := ([(3, o_53_3 P), (12, o_53_12 P), (229, o_53_229 P), (230, o_53_230 P), (231, o_53_231 P), (232, o_53_232 P), (233, o_53_233 P), (234, o_53_234 P), (235, o_53_235 P), (236, o_53_236 P), (237, o_53_237 P), (238, o_53_238 P), (239, o_53_239 P), (240, o_53_240 P), (241, o_53_241 P), (242, o_53_242 P), (243, o_53_243 P), (244, o_53_244 P), (245, o_53_245 P), (246, o_53_246 P), (247, o_53_247 P), (248, o_53_248 P), (249, o_53_249 P), (250, o_53_250 P), (251, o_53_251 P)] : List (Nat × Obj)) ++ ([(252, o_53_252 P), (253, o_53_253 P), (254, o_53_254 P), (255, o_53_255 P), (256, o_53_256 P), (257, o_53_257 P), (258, o_53_258 P), (259, o_53_259 P), (260, o_53_260 P), (261, o_53_261 P), (262, o_53_262 P), (263, o_53_263 P), (264, o_53_264 P), (265, o_53_265 P), (266, o_53_266 P), (267, o_53_267 P), (268, o_53_268 P), (269, o_53_269 P), (270, o_53_270 P), (271, o_53_271 P), (272, o_53_272 P), (273, o_53_273 P), (274, o_53_274 P), (275, o_53_275 P), (276, o_53_276 P)] : List (Nat × Obj)) ++ ([(277, o_53_277 P), (278, o_53_278 P), (279, o_53_279 P), (280, o_53_280 P), (281, o_53_281 P), (282, o_53_282 P), (283, o_53_283 P), (284, o_53_284 P), (285, o_53_285 P), (286, o_53_286 P), (287, o_53_287 P), (288, o_53_288 P), (289, o_53_289 P), (290, o_53_290 P), (291, o_53_291 P), (292, o_53_292 P), (293, o_53_293 P), (294, o_53_294 P), (295, o_53_295 P), (296, o_53_296 P), (297, o_53_297 P), (298, o_53_298 P), (299, o_53_299 P), (300, o_53_300 P), (301, o_53_301 P)] : List (Nat × Obj)) ++ ([(302, o_53_302 P), (303, o_53_303 P), (304, o_53_304 P), (305, o_53_305 P), (306, o_53_306 P), (307, o_53_307 P), (308, o_53_308 P), (309, o_53_309 P), (310, o_53_310 P), (311, o_53_311 P), (312, o_53_312 P), (313, o_53_313 P), (314, o_53_314 P), (315, o_53_315 P), (316, o_53_316 P), (317, o_53_317 P), (318, o_53_318 P), (319, o_53_319 P), (320, o_53_320 P), (321, o_53_321 P), (322, o_53_322 P), (323, o_53_323 P), (324, o_53_324 P), (325, o_53_325 P), (326, o_53_326 P)] : List (Nat × Obj)) ++ ([(327, o_53_327 P), (328, o_53_328 P), (329, o_53_329 P), (330, o_53_330 P), (331, o_53_331 P), (332, o_53_332 P), (333, o_53_333 P), (334, o_53_334 P), (335, o_53_335 P), (336, o_53_336 P), (337, o_53_337 P), (338, o_53_338 P), (339, o_53_339 P), (340, o_53_340 P), (341, o_53_341 P), (342, o_53_342 P), (343, o_53_343 P), (344, o_53_344 P), (345, o_53_345 P), (346, o_53_346 P), (347, o_53_347 P), (348, o_53_348 P), (349, o_53_349 P), (350, o_53_350 P), (351, o_53_351 P)] : List (Nat × Obj)) ++ ([(352, o_53_352 P), (353, o_53_353 P), (354, o_53_354 P), (355, o_53_355 P), (356, o_53_356 P), (357, o_53_357 P), (358, o_53_358 P), (359, o_53_359 P), (360, o_53_360 P), (361, o_53_361 P), (362, o_53_362 P), (363, o_53_363 P), (364, o_53_364 P), (365, o_53_365 P), (366, o_53_366 P), (367, o_53_367 P), (368, o_53_368 P), (369, o_53_369 P), (370, o_53_370 P), (371, o_53_371 P), (372, o_53_372 P), (373, o_53_373 P), (374, o_53_374 P), (375, o_53_375 P), (376, o_53_376 P)] : List (Nat × Obj)) ++ ([(377, o_53_377 P), (378, o_53_378 P), (379, o_53_379 P), (380, o_53_380 P), (381, o_53_381 P), (382, o_53_382 P), (383, o_53_383 P), (384, o_53_384 P), (385, o_53_385 P), (386, o_53_386 P), (387, o_53_387 P), (388, o_53_388 P), (389, o_53_389 P), (390, o_53_390 P), (391, o_53_391 P), (392, o_53_392 P), (393, o_53_393 P), (394, o_53_394 P), (395, o_53_395 P), (396, o_53_396 P), (397, o_53_397 P), (398, o_53_398 P), (399, o_53_399 P), (400, o_53_400 P), (401, o_53_401 P)] : List (Nat × Obj)) ++ ([(402, o_53_402 P), (403, o_53_403 P), (404, o_53_404 P), (405, o_53_405 P), (406, o_53_406 P), (407, o_53_407 P), (408, o_53_408 P), (409, o_53_409 P), (410, o_53_410 P), (411, o_53_411 P), (412, o_53_412 P), (413, o_53_413 P), (414, o_53_414 P), (415, o_53_415 P), (416, o_53_416 P), (417, o_53_417 P), (418, o_53_418 P), (419, o_53_419 P), (420, o_53_420 P), (421, o_53_421 P), (422, o_53_422 P), (423, o_53_423 P), (424, o_53_424 P), (425, o_53_425 P), (426, o_53_426 P)] : List (Nat × Obj)) ++ ([(427, o_53_427 P), (428, o_53_428 P), (429, o_53_429 P), (430, o_53_430 P), (431, o_53_431 P), (432, o_53_432 P), (433, o_53_433 P), (434, o_53_434 P), (435, o_53_435 P), (436, o_53_436 P), (437, o_53_437 P), (438, o_53_438 P), (439, o_53_439 P), (440, o_53_440 P), (441, o_53_441 P), (442, o_53_442 P), (443, o_53_443 P), (444, o_53_444 P), (445, o_53_445 P), (446, o_53_446 P), (447, o_53_447 P), (448, o_53_448 P), (449, o_53_449 P), (450, o_53_450 P), (451, o_53_451 P)] : List (Nat × Obj)) ++ ([(452, o_53_452 P), (453, o_53_453 P), (454, o_53_454 P), (455, o_53_455 P), (456, o_53_456 P), (457, o_53_457 P), (458, o_53_458 P), (459, o_53_459 P), (460, o_53_460 P), (461, o_53_461 P), (462, o_53_462 P), (463, o_53_463 P), (464, o_53_464 P), (465, o_53_465 P), (466, o_53_466 P), (467, o_53_467 P), (468, o_53_468 P), (469, o_53_469 P), (470, o_53_470 P), (471, o_53_471 P), (472, o_53_472 P), (473, o_53_473 P), (474, o_53_474 P), (475, o_53_475 P), (476, o_53_476 P)] : List (Nat × Obj)) ++ ([(477, o_53_477 P), (478, o_53_478 P), (479, o_53_479 P), (480, o_53_480 P), (481, o_53_481 P), (482, o_53_482 P), (483, o_53_483 P), (484, o_53_484 P), (485, o_53_485 P), (486, o_53_486 P), (487, o_53_487 P), (488, o_53_488 P), (489, o_53_489 P), (490, o_53_490 P), (491, o_53_491 P), (492, o_53_492 P)] : List (Nat × Obj))
def t_53 (P : Params) : BT := (insAll (l_53 P) (t_18 P)).getD .nil
def S_53 (w : World) (os : OsState) : SharedT := ⟨t_53 w.params, 493, {}, #[], ⟨0, 0, 0, 0⟩, 846, os⟩
def o_107_3 (P : Params) : Obj := ⟨(.type "dict"), none, (.dict ⟨(([⟨PyData.keyHash P "__name__", (.str "__name__" 165), (.str "tenwhole.places" 1219)⟩, ⟨PyData.keyHash P "__doc__", (.str "__doc__" 166), .none⟩, ⟨PyData.keyHash P "__package__", (.str "__package__" 167), .none⟩, ⟨PyData.keyHash P "__loader__", (.str "__loader__" 168), (.builtin "__main__.__loader__#opaque")⟩, ⟨PyData.keyHash P "__spec__", (.str "__spec__" 169), .none⟩, ⟨PyData.keyHash P "__annotations__", (.str "__annotations__" 170), (.ref 6)⟩, ⟨PyData.keyHash P "__builtins__", (.str "__builtins__" 171), (.ref 4)⟩, ⟨PyData.keyHash P "__file__", (.str "__file__" 173), (.str "/claim/cut.py" 172)⟩, ⟨PyData.keyHash P "__cached__", (.str "__cached__" 174), .none⟩, ⟨PyData.keyHash P "_wall", (.str "_wall" 193), (.ref 21)⟩, ⟨PyData.keyHash P "ORDER", (.str "ORDER" 204), (.ref 22)⟩, ⟨PyData.keyHash P "INVALID", (.str "INVALID" 209), (.ref 23)⟩] : List DictEntry) ++ ([⟨PyData.keyHash P "TenSignal", (.str "TenSignal" 238), (.ref 40)⟩, ⟨PyData.keyHash P "Clamped", (.str "Clamped" 254), (.ref 53)⟩, ⟨PyData.keyHash P "DivisionByZero", (.str "DivisionByZero" 270), (.ref 65)⟩, ⟨PyData.keyHash P "Inexact", (.str "Inexact" 286), (.ref 77)⟩, ⟨PyData.keyHash P "InvalidOperation", (.str "InvalidOperation" 302), (.ref 89)⟩, ⟨PyData.keyHash P "Overflow", (.str "Overflow" 318), (.ref 101)⟩, ⟨PyData.keyHash P "Rounded", (.str "Rounded" 334), (.ref 113)⟩, ⟨PyData.keyHash P "Subnormal", (.str "Subnormal" 350), (.ref 125)⟩, ⟨PyData.keyHash P "Underflow", (.str "Underflow" 366), (.ref 137)⟩, ⟨PyData.keyHash P "TenError", (.str "TenError" 384), (.ref 149)⟩, ⟨PyData.keyHash P "NoOperand", (.str "NoOperand" 409), (.ref 169)⟩, ⟨PyData.keyHash P "NoDecimal", (.str "NoDecimal" 434), (.ref 188)⟩] : List DictEntry) ++ ([⟨PyData.keyHash P "NoContext", (.str "NoContext" 459), (.ref 207)⟩, ⟨PyData.keyHash P "NoName", (.str "NoName" 484), (.ref 226)⟩, ⟨PyData.keyHash P "raise_signal", (.str "raise_signal" 492), (.ref 235)⟩, ⟨PyData.keyHash P "signal_of", (.str "signal_of" 499), (.ref 242)⟩, ⟨PyData.keyHash P "STEP", (.str "STEP" 503), (.int (64) 502)⟩, ⟨PyData.keyHash P "GREAT_decimals", (.str "GREAT_decimals" 507), (.int (10000000000000000000000000000000000000000000000000000000000000000) 506)⟩, ⟨PyData.keyHash P "INFINITY", (.str "INFINITY" 509), (.str "F" 508)⟩, ⟨PyData.keyHash P "QUIET", (.str "QUIET" 511), (.str "n" 510)⟩, ⟨PyData.keyHash P "SIGNALING", (.str "SIGNALING" 513), (.str "N" 512)⟩, ⟨PyData.keyHash P "Decimal", (.str "Decimal" 569), (.ref 280)⟩, ⟨PyData.keyHash P "is_integer", (.str "is_integer" 576), (.ref 291)⟩, ⟨PyData.keyHash P "is_exponent", (.str "is_exponent" 583), (.ref 298)⟩] : List DictEntry) ++ ([⟨PyData.keyHash P "is_finite", (.str "is_finite" 590), (.ref 305)⟩, ⟨PyData.keyHash P "is_infinite", (.str "is_infinite" 597), (.ref 312)⟩, ⟨PyData.keyHash P "is_nan", (.str "is_nan" 604), (.ref 319)⟩, ⟨PyData.keyHash P "is_signaling", (.str "is_signaling" 611), (.ref 326)⟩, ⟨PyData.keyHash P "is_zero", (.str "is_zero" 618), (.ref 333)⟩, ⟨PyData.keyHash P "decimal_of", (.str "decimal_of" 625), (.ref 340)⟩, ⟨PyData.keyHash P "infinity", (.str "infinity" 632), (.ref 347)⟩, ⟨PyData.keyHash P "plain_nan", (.str "plain_nan" 638), (.ref 354)⟩, ⟨PyData.keyHash P "tens", (.str "tens" 647), (.ref 361)⟩, ⟨PyData.keyHash P "count_digits", (.str "count_digits" 655), (.ref 368)⟩, ⟨PyData.keyHash P "digits_of", (.str "digits_of" 661), (.ref 373)⟩, ⟨PyData.keyHash P "order_of", (.str "order_of" 671), (.ref 380)⟩] : List DictEntry) ++ ([⟨PyData.keyHash P "side_of", (.str "side_of" 679), (.ref 387)⟩, ⟨PyData.keyHash P "size_order", (.str "size_order" 690), (.ref 394)⟩, ⟨PyData.keyHash P "Rules", (.str "Rules" 751), (.ref 432)⟩, ⟨PyData.keyHash P "goes_up", (.str "goes_up" 761), (.ref 443)⟩, ⟨PyData.keyHash P "rounded_parts", (.str "rounded_parts" 776), (.ref 450)⟩, ⟨PyData.keyHash P "overflow", (.str "overflow" 786), (.ref 457)⟩, ⟨PyData.keyHash P "finish_zero", (.str "finish_zero" 797), (.ref 464)⟩, ⟨PyData.keyHash P "finish_cut", (.str "finish_cut" 812), (.ref 471)⟩, ⟨PyData.keyHash P "finish_parts", (.str "finish_parts" 826), (.ref 478)⟩, ⟨PyData.keyHash P "finish_endless", (.str "finish_endless" 836), (.ref 485)⟩, ⟨PyData.keyHash P "kept_digits", (.str "kept_digits" 845), (.ref 492)⟩, ⟨PyData.keyHash P "finish", (.str "finish" 853), (.ref 499)⟩] : List DictEntry) ++ ([⟨PyData.keyHash P "nan_of", (.str "nan_of" 859), (.ref 504)⟩, ⟨PyData.keyHash P "invalid", (.str "invalid" 866), (.ref 511)⟩, ⟨PyData.keyHash P "sign_of_both", (.str "sign_of_both" 874), (.ref 518)⟩, ⟨PyData.keyHash P "INVALID_WORD", (.str "INVALID_WORD" 878), (.str "InvalidOperation" 877)⟩, ⟨PyData.keyHash P "as_decimal", (.str "as_decimal" 885), (.ref 525)⟩, ⟨PyData.keyHash P "unsigned", (.str "unsigned" 892), (.ref 532)⟩, ⟨PyData.keyHash P "sided", (.str "sided" 900), (.ref 539)⟩, ⟨PyData.keyHash P "compare", (.str "compare" 910), (.ref 546)⟩, ⟨PyData.keyHash P "compare_signal", (.str "compare_signal" 920), (.ref 553)⟩, ⟨PyData.keyHash P "rank", (.str "rank" 927), (.ref 560)⟩, ⟨PyData.keyHash P "total_size", (.str "total_size" 936), (.ref 567)⟩, ⟨PyData.keyHash P "total_order", (.str "total_order" 944), (.ref 574)⟩] : List DictEntry) ++ ([⟨PyData.keyHash P "compare_total", (.str "compare_total" 953), (.ref 581)⟩, ⟨PyData.keyHash P "compare_total_mag", (.str "compare_total_mag" 962), (.ref 588)⟩, ⟨PyData.keyHash P "equal", (.str "equal" 971), (.ref 595)⟩, ⟨PyData.keyHash P "less", (.str "less" 980), (.ref 602)⟩, ⟨PyData.keyHash P "at_most", (.str "at_most" 989), (.ref 609)⟩, ⟨PyData.keyHash P "is_quiet", (.str "is_quiet" 996), (.ref 616)⟩, ⟨PyData.keyHash P "picked", (.str "picked" 1009), (.ref 623)⟩, ⟨PyData.keyHash P "size_by", (.str "size_by" 1017), (.ref 630)⟩, ⟨PyData.keyHash P "greater_of", (.str "greater_of" 1026), (.ref 637)⟩, ⟨PyData.keyHash P "lesser_of", (.str "lesser_of" 1035), (.ref 644)⟩, ⟨PyData.keyHash P "greater_mag", (.str "greater_mag" 1044), (.ref 651)⟩, ⟨PyData.keyHash P "lesser_mag", (.str "lesser_mag" 1053), (.ref 658)⟩] : List DictEntry) ++ ([⟨PyData.keyHash P "is_low", (.str "is_low" 1061), (.ref 665)⟩, ⟨PyData.keyHash P "is_subnormal", (.str "is_subnormal" 1069), (.ref 672)⟩, ⟨PyData.keyHash P "is_normal", (.str "is_normal" 1077), (.ref 679)⟩, ⟨PyData.keyHash P "number_class", (.str "number_class" 1086), (.ref 686)⟩, ⟨PyData.keyHash P "with_sign", (.str "with_sign" 1096), (.ref 693)⟩, ⟨PyData.keyHash P "with_sign_copies", (.str "with_sign_copies" 1097), (.ref 693)⟩, ⟨PyData.keyHash P "answer_to", (.str "answer_to" 1105), (.ref 700)⟩, ⟨PyData.keyHash P "copy_of", (.str "copy_of" 1113), (.ref 707)⟩, ⟨PyData.keyHash P "greatest", (.str "greatest" 1123), (.ref 714)⟩, ⟨PyData.keyHash P "stepped", (.str "stepped" 1134), (.ref 721)⟩, ⟨PyData.keyHash P "neighbour", (.str "neighbour" 1146), (.ref 728)⟩, ⟨PyData.keyHash P "next_plus", (.str "next_plus" 1155), (.ref 735)⟩] : List DictEntry) ++ ([⟨PyData.keyHash P "next_minus", (.str "next_minus" 1164), (.ref 742)⟩, ⟨PyData.keyHash P "moved_by", (.str "moved_by" 1172), (.ref 749)⟩, ⟨PyData.keyHash P "next_toward", (.str "next_toward" 1184), (.ref 756)⟩, ⟨PyData.keyHash P "logb", (.str "logb" 1193), (.ref 763)⟩, ⟨PyData.keyHash P "is_step", (.str "is_step" 1201), (.ref 770)⟩, ⟨PyData.keyHash P "signed", (.str "signed" 1208), (.ref 777)⟩, ⟨PyData.keyHash P "scaleb", (.str "scaleb" 1218), (.ref 784)⟩, ⟨PyData.keyHash P "PLAIN_places", (.str "PLAIN_places" 1222), (.str "InvalidOperation" 1221)⟩, ⟨PyData.keyHash P "placed", (.str "placed" 1234), (.ref 791)⟩, ⟨PyData.keyHash P "quantize", (.str "quantize" 1249), (.ref 798)⟩, ⟨PyData.keyHash P "same_quantum", (.str "same_quantum" 1258), (.ref 805)⟩, ⟨PyData.keyHash P "to_integral_exact", (.str "to_integral_exact" 1269), (.ref 812)⟩] : List DictEntry) ++ ([⟨PyData.keyHash P "to_integral_value", (.str "to_integral_value" 1278), (.ref 819)⟩] : List DictEntry))⟩ 109), ⟨[]⟩⟩
def o_107_12 (P : Params) : Obj := ⟨.none, none, (.fields ⟨(([(.int (1) 0), (.int (0) 0), (.ref 20), (.int (7) 0), (.int (0) 0), (.ref 29), (.int (12) 0), (.int (0) 0), (.ref 49), (.int (14) 0), (.int (0) 0), (.ref 61)] : List Value) ++ ([(.int (16) 0), (.int (0) 0), (.ref 73), (.int (18) 0), (.int (0) 0), (.ref 85), (.int (20) 0), (.int (0) 0), (.ref 97), (.int (22) 0), (.int (0) 0), (.ref 109)] : List Value) ++ ([(.int (24) 0), (.int (0) 0), (.ref 121), (.int (26) 0), (.int (0) 0), (.ref 133), (.int (28) 0), (.int (0) 0), (.ref 145), (.int (30) 0), (.int (0) 0), (.ref 158)] : List Value) ++ ([(.int (35) 0), (.int (0) 0), (.ref 177), (.int (40) 0), (.int (0) 0), (.ref 196), (.int (45) 0), (.int (0) 0), (.ref 215), (.int (50) 0), (.int (0) 0), (.ref 234)] : List Value) ++ ([(.int (66) 0), (.int (0) 0), (.ref 241), (.int (74) 0), (.int (0) 0), (.ref 248), (.int (101) 0), (.int (0) 0), (.ref 290), (.int (103) 0), (.int (0) 0), (.ref 297)] : List Value) ++ ([(.int (105) 0), (.int (0) 0), (.ref 304), (.int (107) 0), (.int (0) 0), (.ref 311), (.int (109) 0), (.int (0) 0), (.ref 318), (.int (111) 0), (.int (0) 0), (.ref 325)] : List Value) ++ ([(.int (113) 0), (.int (0) 0), (.ref 332), (.int (115) 0), (.int (0) 0), (.ref 339), (.int (121) 0), (.int (0) 0), (.ref 346), (.int (123) 0), (.int (0) 0), (.ref 353)] : List Value) ++ ([(.int (125) 0), (.int (0) 0), (.ref 360), (.int (132) 0), (.int (0) 0), (.ref 367), (.int (138) 0), (.int (0) 0), (.ref 372), (.int (145) 0), (.int (0) 0), (.ref 379)] : List Value) ++ ([(.int (154) 0), (.int (0) 0), (.ref 386), (.int (157) 0), (.int (0) 0), (.ref 393), (.int (165) 0), (.int (0) 0), (.ref 400), (.int (182) 0), (.int (0) 0), (.ref 442)] : List Value) ++ ([(.int (188) 0), (.int (0) 0), (.ref 449), (.int (198) 0), (.int (0) 0), (.ref 456), (.int (204) 0), (.int (0) 0), (.ref 463), (.int (208) 0), (.int (0) 0), (.ref 470)] : List Value) ++ ([(.int (219) 0), (.int (0) 0), (.ref 477), (.int (233) 0), (.int (0) 0), (.ref 484), (.int (235) 0), (.int (0) 0), (.ref 491), (.int (238) 0), (.int (0) 0), (.ref 498)] : List Value) ++ ([(.int (244) 0), (.int (0) 0), (.ref 503), (.int (252) 0), (.int (0) 0), (.ref 510), (.int (254) 0), (.int (0) 0), (.ref 517), (.int (258) 0), (.int (0) 0), (.ref 524)] : List Value) ++ ([(.int (260) 0), (.int (0) 0), (.ref 531), (.int (262) 0), (.int (0) 0), (.ref 538), (.int (264) 0), (.int (0) 0), (.ref 545), (.int (267) 0), (.int (0) 0), (.ref 552)] : List Value) ++ ([(.int (272) 0), (.int (0) 0), (.ref 559), (.int (276) 0), (.int (0) 0), (.ref 566), (.int (285) 0), (.int (0) 0), (.ref 573), (.int (289) 0), (.int (0) 0), (.ref 580)] : List Value) ++ ([(.int (291) 0), (.int (0) 0), (.ref 587), (.int (293) 0), (.int (0) 0), (.ref 594), (.int (297) 0), (.int (0) 0), (.ref 601), (.int (301) 0), (.int (0) 0), (.ref 608)] : List Value) ++ ([(.int (305) 0), (.int (0) 0), (.ref 615), (.int (307) 0), (.int (0) 0), (.ref 622), (.int (319) 0), (.int (0) 0), (.ref 629), (.int (321) 0), (.int (0) 0), (.ref 636)] : List Value) ++ ([(.int (323) 0), (.int (0) 0), (.ref 643), (.int (325) 0), (.int (0) 0), (.ref 650), (.int (327) 0), (.int (0) 0), (.ref 657), (.int (329) 0), (.int (0) 0), (.ref 664)] : List Value) ++ ([(.int (331) 0), (.int (0) 0), (.ref 671), (.int (333) 0), (.int (0) 0), (.ref 678), (.int (335) 0), (.int (0) 0), (.ref 685), (.int (346) 0), (.int (0) 0), (.ref 692)] : List Value) ++ ([(.int (349) 0), (.int (0) 0), (.ref 699), (.int (363) 0), (.int (0) 0), (.ref 706), (.int (368) 0), (.int (0) 0), (.ref 713), (.int (370) 0), (.int (0) 0), (.ref 720)] : List Value) ++ ([(.int (380) 0), (.int (0) 0), (.ref 727), (.int (386) 0), (.int (0) 0), (.ref 734), (.int (389) 0), (.int (0) 0), (.ref 741), (.int (392) 0), (.int (0) 0), (.ref 748)] : List Value) ++ ([(.int (398) 0), (.int (0) 0), (.ref 755), (.int (407) 0), (.int (0) 0), (.ref 762), (.int (416) 0), (.int (0) 0), (.ref 769), (.int (418) 0), (.int (0) 0), (.ref 776)] : List Value) ++ ([(.int (420) 0), (.int (0) 0), (.ref 783), (.int (431) 0), (.int (0) 0), (.ref 790), (.int (437) 0), (.int (0) 0), (.ref 797), (.int (455) 0), (.int (0) 0), (.ref 804)] : List Value) ++ ([(.int (459) 0), (.int (0) 0), (.ref 811), (.int (469) 0), (.int (0) 0), (.ref 818)] : List Value))⟩), ⟨[]⟩⟩
def o_107_493 (P : Params) : Obj := ⟨(.type "tuple"), none, (.seq ⟨([] : List Value)⟩ 0), ⟨[]⟩⟩
def o_107_494 (P : Params) : Obj := ⟨.none, none, (.fields ⟨([] : List Value)⟩), ⟨[]⟩⟩
def o_107_495 (P : Params) : Obj := ⟨(.type "tuple"), none, (.seq ⟨(([(.str "rules" 849), (.str "a" 850)] : List Value))⟩ 0), ⟨[]⟩⟩
def o_107_496 (P : Params) : Obj := ⟨(.type "tuple"), none, (.seq ⟨([] : List Value)⟩ 0), ⟨[]⟩⟩
def o_107_497 (P : Params) : Obj := ⟨.none, none, (.func ⟨"finish", "finish", defArgs (top 53), .stmts (defBody (top 53)), defScope (top 53), 0, [], .none, .none, .none, .none, none, .none, .none, 0⟩), ⟨[]⟩⟩
def o_107_498 (P : Params) : Obj := ⟨(.type "code"), none, (.fields ⟨(([(.str "finish" 846), (.str "finish" 847), (.str "/claim/cut.py" 848), (.int (238) 0), (.int (2) 0), (.int (0) 0), (.int (0) 0), (.int (3) 0), (.ref 493), (.bool true), (.int (181) 0), (.ref 494)] : List Value) ++ ([.none, (.ref 495), (.ref 496), (.ref 497), (.int (851) 0), (.int (238) 0), (.str "/claim/cut.py" 852)] : List Value))⟩), ⟨[]⟩⟩
def o_107_499 (P : Params) : Obj := ⟨(.type "function"), none, (.func ⟨"finish", "finish", defArgs (top 53), .stmts (defBody (top 53)), defScope (top 53), 3, [], .none, .none, .none, (.str "tenwhole.finishing" 691), none, (.ref 498), .none, 0⟩), ⟨[]⟩⟩
def o_107_500 (P : Params) : Obj := ⟨(.type "tuple"), none, (.seq ⟨([] : List Value)⟩ 0), ⟨[]⟩⟩
def o_107_501 (P : Params) : Obj := ⟨.none, none, (.fields ⟨([] : List Value)⟩), ⟨[]⟩⟩
def o_107_502 (P : Params) : Obj := ⟨.none, none, (.func ⟨"nan_of", "nan_of", defArgs (top 54), .stmts (defBody (top 54)), defScope (top 54), 0, [], .none, .none, .none, .none, none, .none, .none, 0⟩), ⟨[]⟩⟩
def o_107_503 (P : Params) : Obj := ⟨(.type "code"), none, (.fields ⟨(([(.str "nan_of" 854), (.str "nan_of" 855), (.str "/claim/cut.py" 856), (.int (244) 0), (.int (2) 0), (.int (0) 0), (.int (0) 0), (.int (3) 0), (.ref 500), (.bool true), (.int (181) 0), (.ref 501)] : List Value) ++ ([.none, .none, .none, (.ref 502), (.int (857) 0), (.int (244) 0), (.str "/claim/cut.py" 858)] : List Value))⟩), ⟨[]⟩⟩
def o_107_504 (P : Params) : Obj := ⟨(.type "function"), none, (.func ⟨"nan_of", "nan_of", defArgs (top 54), .stmts (defBody (top 54)), defScope (top 54), 3, [], .none, .none, .none, (.str "tenwhole.finishing" 691), none, (.ref 503), .none, 0⟩), ⟨[]⟩⟩
def o_107_505 (P : Params) : Obj := ⟨(.type "tuple"), none, (.seq ⟨([] : List Value)⟩ 0), ⟨[]⟩⟩
def o_107_506 (P : Params) : Obj := ⟨.none, none, (.fields ⟨([] : List Value)⟩), ⟨[]⟩⟩
def o_107_507 (P : Params) : Obj := ⟨(.type "tuple"), none, (.seq ⟨(([(.str "condition" 863)] : List Value))⟩ 0), ⟨[]⟩⟩
def o_107_508 (P : Params) : Obj := ⟨(.type "tuple"), none, (.seq ⟨([] : List Value)⟩ 0), ⟨[]⟩⟩
def o_107_509 (P : Params) : Obj := ⟨.none, none, (.func ⟨"invalid", "invalid", defArgs (top 55), .stmts (defBody (top 55)), defScope (top 55), 0, [], .none, .none, .none, .none, none, .none, .none, 0⟩), ⟨[]⟩⟩
def o_107_510 (P : Params) : Obj := ⟨(.type "code"), none, (.fields ⟨(([(.str "invalid" 860), (.str "invalid" 861), (.str "/claim/cut.py" 862), (.int (252) 0), (.int (1) 0), (.int (0) 0), (.int (0) 0), (.int (3) 0), (.ref 505), (.bool true), (.int (181) 0), (.ref 506)] : List Value) ++ ([.none, (.ref 507), (.ref 508), (.ref 509), (.int (864) 0), (.int (252) 0), (.str "/claim/cut.py" 865)] : List Value))⟩), ⟨[]⟩⟩
def o_107_511 (P : Params) : Obj := ⟨(.type "function"), none, (.func ⟨"invalid", "invalid", defArgs (top 55), .stmts (defBody (top 55)), defScope (top 55), 3, [], .none, .none, .none, (.str "tenwhole.finishing" 691), none, (.ref 510), .none, 0⟩), ⟨[]⟩⟩
def o_107_512 (P : Params) : Obj := ⟨(.type "tuple"), none, (.seq ⟨([] : List Value)⟩ 0), ⟨[]⟩⟩
def o_107_513 (P : Params) : Obj := ⟨.none, none, (.fields ⟨([] : List Value)⟩), ⟨[]⟩⟩
def o_107_514 (P : Params) : Obj := ⟨(.type "tuple"), none, (.seq ⟨(([(.str "a" 870), (.str "b" 871)] : List Value))⟩ 0), ⟨[]⟩⟩
def o_107_515 (P : Params) : Obj := ⟨(.type "tuple"), none, (.seq ⟨([] : List Value)⟩ 0), ⟨[]⟩⟩
def o_107_516 (P : Params) : Obj := ⟨.none, none, (.func ⟨"sign_of_both", "sign_of_both", defArgs (top 56), .stmts (defBody (top 56)), defScope (top 56), 0, [], .none, .none, .none, .none, none, .none, .none, 0⟩), ⟨[]⟩⟩
def o_107_517 (P : Params) : Obj := ⟨(.type "code"), none, (.fields ⟨(([(.str "sign_of_both" 867), (.str "sign_of_both" 868), (.str "/claim/cut.py" 869), (.int (254) 0), (.int (2) 0), (.int (0) 0), (.int (0) 0), (.int (3) 0), (.ref 512), (.bool true), (.int (181) 0), (.ref 513)] : List Value) ++ ([.none, (.ref 514), (.ref 515), (.ref 516), (.int (872) 0), (.int (254) 0), (.str "/claim/cut.py" 873)] : List Value))⟩), ⟨[]⟩⟩
def o_107_518 (P : Params) : Obj := ⟨(.type "function"), none, (.func ⟨"sign_of_both", "sign_of_both", defArgs (top 56), .stmts (defBody (top 56)), defScope (top 56), 3, [], .none, .none, .none, (.str "tenwhole.finishing" 691), none, (.ref 517), .none, 0⟩), ⟨[]⟩⟩
def o_107_519 (P : Params) : Obj := ⟨(.type "tuple"), none, (.seq ⟨([] : List Value)⟩ 0), ⟨[]⟩⟩
def o_107_520 (P : Params) : Obj := ⟨.none, none, (.fields ⟨([] : List Value)⟩), ⟨[]⟩⟩
def o_107_521 (P : Params) : Obj := ⟨(.type "tuple"), none, (.seq ⟨(([(.str "order" 882)] : List Value))⟩ 0), ⟨[]⟩⟩
def o_107_522 (P : Params) : Obj := ⟨(.type "tuple"), none, (.seq ⟨([] : List Value)⟩ 0), ⟨[]⟩⟩
def o_107_523 (P : Params) : Obj := ⟨.none, none, (.func ⟨"as_decimal", "as_decimal", defArgs (top 59), .stmts (defBody (top 59)), defScope (top 59), 0, [], .none, .none, .none, .none, none, .none, .none, 0⟩), ⟨[]⟩⟩
def o_107_524 (P : Params) : Obj := ⟨(.type "code"), none, (.fields ⟨(([(.str "as_decimal" 879), (.str "as_decimal" 880), (.str "/claim/cut.py" 881), (.int (258) 0), (.int (1) 0), (.int (0) 0), (.int (0) 0), (.int (3) 0), (.ref 519), (.bool true), (.int (181) 0), (.ref 520)] : List Value) ++ ([.none, (.ref 521), (.ref 522), (.ref 523), (.int (883) 0), (.int (258) 0), (.str "/claim/cut.py" 884)] : List Value))⟩), ⟨[]⟩⟩
def o_107_525 (P : Params) : Obj := ⟨(.type "function"), none, (.func ⟨"as_decimal", "as_decimal", defArgs (top 59), .stmts (defBody (top 59)), defScope (top 59), 3, [], .none, .none, .none, (.str "tenwhole.comparing" 875), none, (.ref 524), .none, 0⟩), ⟨[]⟩⟩
def o_107_526 (P : Params) : Obj := ⟨(.type "tuple"), none, (.seq ⟨([] : List Value)⟩ 0), ⟨[]⟩⟩
def o_107_527 (P : Params) : Obj := ⟨.none, none, (.fields ⟨([] : List Value)⟩), ⟨[]⟩⟩
def o_107_528 (P : Params) : Obj := ⟨(.type "tuple"), none, (.seq ⟨(([(.str "a" 889)] : List Value))⟩ 0), ⟨[]⟩⟩
def o_107_529 (P : Params) : Obj := ⟨(.type "tuple"), none, (.seq ⟨([] : List Value)⟩ 0), ⟨[]⟩⟩
def o_107_530 (P : Params) : Obj := ⟨.none, none, (.func ⟨"unsigned", "unsigned", defArgs (top 60), .stmts (defBody (top 60)), defScope (top 60), 0, [], .none, .none, .none, .none, none, .none, .none, 0⟩), ⟨[]⟩⟩
def o_107_531 (P : Params) : Obj := ⟨(.type "code"), none, (.fields ⟨(([(.str "unsigned" 886), (.str "unsigned" 887), (.str "/claim/cut.py" 888), (.int (260) 0), (.int (1) 0), (.int (0) 0), (.int (0) 0), (.int (3) 0), (.ref 526), (.bool true), (.int (181) 0), (.ref 527)] : List Value) ++ ([.none, (.ref 528), (.ref 529), (.ref 530), (.int (890) 0), (.int (260) 0), (.str "/claim/cut.py" 891)] : List Value))⟩), ⟨[]⟩⟩
def o_107_532 (P : Params) : Obj := ⟨(.type "function"), none, (.func ⟨"unsigned", "unsigned", defArgs (top 60), .stmts (defBody (top 60)), defScope (top 60), 3, [], .none, .none, .none, (.str "tenwhole.comparing" 875), none, (.ref 531), .none, 0⟩), ⟨[]⟩⟩
def o_107_533 (P : Params) : Obj := ⟨(.type "tuple"), none, (.seq ⟨([] : List Value)⟩ 0), ⟨[]⟩⟩
def o_107_534 (P : Params) : Obj := ⟨.none, none, (.fields ⟨([] : List Value)⟩), ⟨[]⟩⟩
def o_107_535 (P : Params) : Obj := ⟨(.type "tuple"), none, (.seq ⟨(([(.str "one" 896), (.str "other" 897)] : List Value))⟩ 0), ⟨[]⟩⟩
def o_107_536 (P : Params) : Obj := ⟨(.type "tuple"), none, (.seq ⟨([] : List Value)⟩ 0), ⟨[]⟩⟩
def o_107_537 (P : Params) : Obj := ⟨.none, none, (.func ⟨"sided", "sided", defArgs (top 61), .stmts (defBody (top 61)), defScope (top 61), 0, [], .none, .none, .none, .none, none, .none, .none, 0⟩), ⟨[]⟩⟩
def o_107_538 (P : Params) : Obj := ⟨(.type "code"), none, (.fields ⟨(([(.str "sided" 893), (.str "sided" 894), (.str "/claim/cut.py" 895), (.int (262) 0), (.int (2) 0), (.int (0) 0), (.int (0) 0), (.int (3) 0), (.ref 533), (.bool true), (.int (181) 0), (.ref 534)] : List Value) ++ ([.none, (.ref 535), (.ref 536), (.ref 537), (.int (898) 0), (.int (262) 0), (.str "/claim/cut.py" 899)] : List Value))⟩), ⟨[]⟩⟩
def o_107_539 (P : Params) : Obj := ⟨(.type "function"), none, (.func ⟨"sided", "sided", defArgs (top 61), .stmts (defBody (top 61)), defScope (top 61), 3, [], .none, .none, .none, (.str "tenwhole.comparing" 875), none, (.ref 538), .none, 0⟩), ⟨[]⟩⟩
def o_107_540 (P : Params) : Obj := ⟨(.type "tuple"), none, (.seq ⟨([] : List Value)⟩ 0), ⟨[]⟩⟩
def o_107_541 (P : Params) : Obj := ⟨.none, none, (.fields ⟨([] : List Value)⟩), ⟨[]⟩⟩
def o_107_542 (P : Params) : Obj := ⟨(.type "tuple"), none, (.seq ⟨(([(.str "rules" 904), (.str "a" 905), (.str "b" 906), (.str "found" 907)] : List Value))⟩ 0), ⟨[]⟩⟩
def o_107_543 (P : Params) : Obj := ⟨(.type "tuple"), none, (.seq ⟨([] : List Value)⟩ 0), ⟨[]⟩⟩
def o_107_544 (P : Params) : Obj := ⟨.none, none, (.func ⟨"compare", "compare", defArgs (top 62), .stmts (defBody (top 62)), defScope (top 62), 0, [], .none, .none, .none, .none, none, .none, .none, 0⟩), ⟨[]⟩⟩
def o_107_545 (P : Params) : Obj := ⟨(.type "code"), none, (.fields ⟨(([(.str "compare" 901), (.str "compare" 902), (.str "/claim/cut.py" 903), (.int (264) 0), (.int (3) 0), (.int (0) 0), (.int (0) 0), (.int (3) 0), (.ref 540), (.bool true), (.int (181) 0), (.ref 541)] : List Value) ++ ([.none, (.ref 542), (.ref 543), (.ref 544), (.int (908) 0), (.int (264) 0), (.str "/claim/cut.py" 909)] : List Value))⟩), ⟨[]⟩⟩
def o_107_546 (P : Params) : Obj := ⟨(.type "function"), none, (.func ⟨"compare", "compare", defArgs (top 62), .stmts (defBody (top 62)), defScope (top 62), 3, [], .none, .none, .none, (.str "tenwhole.comparing" 875), none, (.ref 545), .none, 0⟩), ⟨[]⟩⟩
def o_107_547 (P : Params) : Obj := ⟨(.type "tuple"), none, (.seq ⟨([] : List Value)⟩ 0), ⟨[]⟩⟩
def o_107_548 (P : Params) : Obj := ⟨.none, none, (.fields ⟨([] : List Value)⟩), ⟨[]⟩⟩
def o_107_549 (P : Params) : Obj := ⟨(.type "tuple"), none, (.seq ⟨(([(.str "rules" 914), (.str "a" 915), (.str "b" 916), (.str "found" 917)] : List Value))⟩ 0), ⟨[]⟩⟩
def o_107_550 (P : Params) : Obj := ⟨(.type "tuple"), none, (.seq ⟨([] : List Value)⟩ 0), ⟨[]⟩⟩
def o_107_551 (P : Params) : Obj := ⟨.none, none, (.func ⟨"compare_signal", "compare_signal", defArgs (top 63), .stmts (defBody (top 63)), defScope (top 63), 0, [], .none, .none, .none, .none, none, .none, .none, 0⟩), ⟨[]⟩⟩
def o_107_552 (P : Params) : Obj := ⟨(.type "code"), none, (.fields ⟨(([(.str "compare_signal" 911), (.str "compare_signal" 912), (.str "/claim/cut.py" 913), (.int (267) 0), (.int (3) 0), (.int (0) 0), (.int (0) 0), (.int (3) 0), (.ref 547), (.bool true), (.int (181) 0), (.ref 548)] : List Value) ++ ([.none, (.ref 549), (.ref 550), (.ref 551), (.int (918) 0), (.int (267) 0), (.str "/claim/cut.py" 919)] : List Value))⟩), ⟨[]⟩⟩
def o_107_553 (P : Params) : Obj := ⟨(.type "function"), none, (.func ⟨"compare_signal", "compare_signal", defArgs (top 63), .stmts (defBody (top 63)), defScope (top 63), 3, [], .none, .none, .none, (.str "tenwhole.comparing" 875), none, (.ref 552), .none, 0⟩), ⟨[]⟩⟩
def o_107_554 (P : Params) : Obj := ⟨(.type "tuple"), none, (.seq ⟨([] : List Value)⟩ 0), ⟨[]⟩⟩
def o_107_555 (P : Params) : Obj := ⟨.none, none, (.fields ⟨([] : List Value)⟩), ⟨[]⟩⟩
def o_107_556 (P : Params) : Obj := ⟨(.type "tuple"), none, (.seq ⟨(([(.str "a" 924)] : List Value))⟩ 0), ⟨[]⟩⟩
def o_107_557 (P : Params) : Obj := ⟨(.type "tuple"), none, (.seq ⟨([] : List Value)⟩ 0), ⟨[]⟩⟩
def o_107_558 (P : Params) : Obj := ⟨.none, none, (.func ⟨"rank", "rank", defArgs (top 64), .stmts (defBody (top 64)), defScope (top 64), 0, [], .none, .none, .none, .none, none, .none, .none, 0⟩), ⟨[]⟩⟩
def o_107_559 (P : Params) : Obj := ⟨(.type "code"), none, (.fields ⟨(([(.str "rank" 921), (.str "rank" 922), (.str "/claim/cut.py" 923), (.int (272) 0), (.int (1) 0), (.int (0) 0), (.int (0) 0), (.int (3) 0), (.ref 554), (.bool true), (.int (181) 0), (.ref 555)] : List Value) ++ ([.none, (.ref 556), (.ref 557), (.ref 558), (.int (925) 0), (.int (272) 0), (.str "/claim/cut.py" 926)] : List Value))⟩), ⟨[]⟩⟩
def o_107_560 (P : Params) : Obj := ⟨(.type "function"), none, (.func ⟨"rank", "rank", defArgs (top 64), .stmts (defBody (top 64)), defScope (top 64), 3, [], .none, .none, .none, (.str "tenwhole.comparing" 875), none, (.ref 559), .none, 0⟩), ⟨[]⟩⟩
def o_107_561 (P : Params) : Obj := ⟨(.type "tuple"), none, (.seq ⟨([] : List Value)⟩ 0), ⟨[]⟩⟩
def o_107_562 (P : Params) : Obj := ⟨.none, none, (.fields ⟨([] : List Value)⟩), ⟨[]⟩⟩
def o_107_563 (P : Params) : Obj := ⟨(.type "tuple"), none, (.seq ⟨(([(.str "a" 931), (.str "b" 932), (.str "found" 933)] : List Value))⟩ 0), ⟨[]⟩⟩
def o_107_564 (P : Params) : Obj := ⟨(.type "tuple"), none, (.seq ⟨([] : List Value)⟩ 0), ⟨[]⟩⟩
def o_107_565 (P : Params) : Obj := ⟨.none, none, (.func ⟨"total_size", "total_size", defArgs (top 65), .stmts (defBody (top 65)), defScope (top 65), 0, [], .none, .none, .none, .none, none, .none, .none, 0⟩), ⟨[]⟩⟩
def o_107_566 (P : Params) : Obj := ⟨(.type "code"), none, (.fields ⟨(([(.str "total_size" 928), (.str "total_size" 929), (.str "/claim/cut.py" 930), (.int (276) 0), (.int (2) 0), (.int (0) 0), (.int (0) 0), (.int (3) 0), (.ref 561), (.bool true), (.int (181) 0), (.ref 562)] : List Value) ++ ([.none, (.ref 563), (.ref 564), (.ref 565), (.int (934) 0), (.int (276) 0), (.str "/claim/cut.py" 935)] : List Value))⟩), ⟨[]⟩⟩
def o_107_567 (P : Params) : Obj := ⟨(.type "function"), none, (.func ⟨"total_size", "total_size", defArgs (top 65), .stmts (defBody (top 65)), defScope (top 65), 3, [], .none, .none, .none, (.str "tenwhole.comparing" 875), none, (.ref 566), .none, 0⟩), ⟨[]⟩⟩
def o_107_568 (P : Params) : Obj := ⟨(.type "tuple"), none, (.seq ⟨([] : List Value)⟩ 0), ⟨[]⟩⟩
def o_107_569 (P : Params) : Obj := ⟨.none, none, (.fields ⟨([] : List Value)⟩), ⟨[]⟩⟩
def o_107_570 (P : Params) : Obj := ⟨(.type "tuple"), none, (.seq ⟨(([(.str "a" 940), (.str "b" 941)] : List Value))⟩ 0), ⟨[]⟩⟩
def o_107_571 (P : Params) : Obj := ⟨(.type "tuple"), none, (.seq ⟨([] : List Value)⟩ 0), ⟨[]⟩⟩
def o_107_572 (P : Params) : Obj := ⟨.none, none, (.func ⟨"total_order", "total_order", defArgs (top 66), .stmts (defBody (top 66)), defScope (top 66), 0, [], .none, .none, .none, .none, none, .none, .none, 0⟩), ⟨[]⟩⟩
def o_107_573 (P : Params) : Obj := ⟨(.type "code"), none, (.fields ⟨(([(.str "total_order" 937), (.str "total_order" 938), (.str "/claim/cut.py" 939), (.int (285) 0), (.int (2) 0), (.int (0) 0), (.int (0) 0), (.int (3) 0), (.ref 568), (.bool true), (.int (181) 0), (.ref 569)] : List Value) ++ ([.none, (.ref 570), (.ref 571), (.ref 572), (.int (942) 0), (.int (285) 0), (.str "/claim/cut.py" 943)] : List Value))⟩), ⟨[]⟩⟩
def o_107_574 (P : Params) : Obj := ⟨(.type "function"), none, (.func ⟨"total_order", "total_order", defArgs (top 66), .stmts (defBody (top 66)), defScope (top 66), 3, [], .none, .none, .none, (.str "tenwhole.comparing" 875), none, (.ref 573), .none, 0⟩), ⟨[]⟩⟩
def o_107_575 (P : Params) : Obj := ⟨(.type "tuple"), none, (.seq ⟨([] : List Value)⟩ 0), ⟨[]⟩⟩
def o_107_576 (P : Params) : Obj := ⟨.none, none, (.fields ⟨([] : List Value)⟩), ⟨[]⟩⟩
def o_107_577 (P : Params) : Obj := ⟨(.type "tuple"), none, (.seq ⟨(([(.str "rules" 948), (.str "a" 949), (.str "b" 950)] : List Value))⟩ 0), ⟨[]⟩⟩
def o_107_578 (P : Params) : Obj := ⟨(.type "tuple"), none, (.seq ⟨([] : List Value)⟩ 0), ⟨[]⟩⟩
def o_107_579 (P : Params) : Obj := ⟨.none, none, (.func ⟨"compare_total", "compare_total", defArgs (top 67), .stmts (defBody (top 67)), defScope (top 67), 0, [], .none, .none, .none, .none, none, .none, .none, 0⟩), ⟨[]⟩⟩
def o_107_580 (P : Params) : Obj := ⟨(.type "code"), none, (.fields ⟨(([(.str "compare_total" 945), (.str "compare_total" 946), (.str "/claim/cut.py" 947), (.int (289) 0), (.int (3) 0), (.int (0) 0), (.int (0) 0), (.int (3) 0), (.ref 575), (.bool true), (.int (181) 0), (.ref 576)] : List Value) ++ ([.none, (.ref 577), (.ref 578), (.ref 579), (.int (951) 0), (.int (289) 0), (.str "/claim/cut.py" 952)] : List Value))⟩), ⟨[]⟩⟩
def o_107_581 (P : Params) : Obj := ⟨(.type "function"), none, (.func ⟨"compare_total", "compare_total", defArgs (top 67), .stmts (defBody (top 67)), defScope (top 67), 3, [], .none, .none, .none, (.str "tenwhole.comparing" 875), none, (.ref 580), .none, 0⟩), ⟨[]⟩⟩
def o_107_582 (P : Params) : Obj := ⟨(.type "tuple"), none, (.seq ⟨([] : List Value)⟩ 0), ⟨[]⟩⟩
def o_107_583 (P : Params) : Obj := ⟨.none, none, (.fields ⟨([] : List Value)⟩), ⟨[]⟩⟩
def o_107_584 (P : Params) : Obj := ⟨(.type "tuple"), none, (.seq ⟨(([(.str "rules" 957), (.str "a" 958), (.str "b" 959)] : List Value))⟩ 0), ⟨[]⟩⟩
def o_107_585 (P : Params) : Obj := ⟨(.type "tuple"), none, (.seq ⟨([] : List Value)⟩ 0), ⟨[]⟩⟩
def o_107_586 (P : Params) : Obj := ⟨.none, none, (.func ⟨"compare_total_mag", "compare_total_mag", defArgs (top 68), .stmts (defBody (top 68)), defScope (top 68), 0, [], .none, .none, .none, .none, none, .none, .none, 0⟩), ⟨[]⟩⟩
def o_107_587 (P : Params) : Obj := ⟨(.type "code"), none, (.fields ⟨(([(.str "compare_total_mag" 954), (.str "compare_total_mag" 955), (.str "/claim/cut.py" 956), (.int (291) 0), (.int (3) 0), (.int (0) 0), (.int (0) 0), (.int (3) 0), (.ref 582), (.bool true), (.int (181) 0), (.ref 583)] : List Value) ++ ([.none, (.ref 584), (.ref 585), (.ref 586), (.int (960) 0), (.int (291) 0), (.str "/claim/cut.py" 961)] : List Value))⟩), ⟨[]⟩⟩
def o_107_588 (P : Params) : Obj := ⟨(.type "function"), none, (.func ⟨"compare_total_mag", "compare_total_mag", defArgs (top 68), .stmts (defBody (top 68)), defScope (top 68), 3, [], .none, .none, .none, (.str "tenwhole.comparing" 875), none, (.ref 587), .none, 0⟩), ⟨[]⟩⟩
def o_107_589 (P : Params) : Obj := ⟨(.type "tuple"), none, (.seq ⟨([] : List Value)⟩ 0), ⟨[]⟩⟩
def o_107_590 (P : Params) : Obj := ⟨.none, none, (.fields ⟨([] : List Value)⟩), ⟨[]⟩⟩
def o_107_591 (P : Params) : Obj := ⟨(.type "tuple"), none, (.seq ⟨(([(.str "rules" 966), (.str "a" 967), (.str "b" 968)] : List Value))⟩ 0), ⟨[]⟩⟩
def o_107_592 (P : Params) : Obj := ⟨(.type "tuple"), none, (.seq ⟨([] : List Value)⟩ 0), ⟨[]⟩⟩
def o_107_593 (P : Params) : Obj := ⟨.none, none, (.func ⟨"equal", "equal", defArgs (top 69), .stmts (defBody (top 69)), defScope (top 69), 0, [], .none, .none, .none, .none, none, .none, .none, 0⟩), ⟨[]⟩⟩
def o_107_594 (P : Params) : Obj := ⟨(.type "code"), none, (.fields ⟨(([(.str "equal" 963), (.str "equal" 964), (.str "/claim/cut.py" 965), (.int (293) 0), (.int (3) 0), (.int (0) 0), (.int (0) 0), (.int (3) 0), (.ref 589), (.bool true), (.int (181) 0), (.ref 590)] : List Value) ++ ([.none, (.ref 591), (.ref 592), (.ref 593), (.int (969) 0), (.int (293) 0), (.str "/claim/cut.py" 970)] : List Value))⟩), ⟨[]⟩⟩
def o_107_595 (P : Params) : Obj := ⟨(.type "function"), none, (.func ⟨"equal", "equal", defArgs (top 69), .stmts (defBody (top 69)), defScope (top 69), 3, [], .none, .none, .none, (.str "tenwhole.comparing" 875), none, (.ref 594), .none, 0⟩), ⟨[]⟩⟩
def o_107_596 (P : Params) : Obj := ⟨(.type "tuple"), none, (.seq ⟨([] : List Value)⟩ 0), ⟨[]⟩⟩
def o_107_597 (P : Params) : Obj := ⟨.none, none, (.fields ⟨([] : List Value)⟩), ⟨[]⟩⟩
def o_107_598 (P : Params) : Obj := ⟨(.type "tuple"), none, (.seq ⟨(([(.str "rules" 975), (.str "a" 976), (.str "b" 977)] : List Value))⟩ 0), ⟨[]⟩⟩
def o_107_599 (P : Params) : Obj := ⟨(.type "tuple"), none, (.seq ⟨([] : List Value)⟩ 0), ⟨[]⟩⟩
def o_107_600 (P : Params) : Obj := ⟨.none, none, (.func ⟨"less", "less", defArgs (top 70), .stmts (defBody (top 70)), defScope (top 70), 0, [], .none, .none, .none, .none, none, .none, .none, 0⟩), ⟨[]⟩⟩
def o_107_601 (P : Params) : Obj := ⟨(.type "code"), none, (.fields ⟨(([(.str "less" 972), (.str "less" 973), (.str "/claim/cut.py" 974), (.int (297) 0), (.int (3) 0), (.int (0) 0), (.int (0) 0), (.int (3) 0), (.ref 596), (.bool true), (.int (181) 0), (.ref 597)] : List Value) ++ ([.none, (.ref 598), (.ref 599), (.ref 600), (.int (978) 0), (.int (297) 0), (.str "/claim/cut.py" 979)] : List Value))⟩), ⟨[]⟩⟩
def o_107_602 (P : Params) : Obj := ⟨(.type "function"), none, (.func ⟨"less", "less", defArgs (top 70), .stmts (defBody (top 70)), defScope (top 70), 3, [], .none, .none, .none, (.str "tenwhole.comparing" 875), none, (.ref 601), .none, 0⟩), ⟨[]⟩⟩
def o_107_603 (P : Params) : Obj := ⟨(.type "tuple"), none, (.seq ⟨([] : List Value)⟩ 0), ⟨[]⟩⟩
def o_107_604 (P : Params) : Obj := ⟨.none, none, (.fields ⟨([] : List Value)⟩), ⟨[]⟩⟩
def o_107_605 (P : Params) : Obj := ⟨(.type "tuple"), none, (.seq ⟨(([(.str "rules" 984), (.str "a" 985), (.str "b" 986)] : List Value))⟩ 0), ⟨[]⟩⟩
def o_107_606 (P : Params) : Obj := ⟨(.type "tuple"), none, (.seq ⟨([] : List Value)⟩ 0), ⟨[]⟩⟩
def o_107_607 (P : Params) : Obj := ⟨.none, none, (.func ⟨"at_most", "at_most", defArgs (top 71), .stmts (defBody (top 71)), defScope (top 71), 0, [], .none, .none, .none, .none, none, .none, .none, 0⟩), ⟨[]⟩⟩
def o_107_608 (P : Params) : Obj := ⟨(.type "code"), none, (.fields ⟨(([(.str "at_most" 981), (.str "at_most" 982), (.str "/claim/cut.py" 983), (.int (301) 0), (.int (3) 0), (.int (0) 0), (.int (0) 0), (.int (3) 0), (.ref 603), (.bool true), (.int (181) 0), (.ref 604)] : List Value) ++ ([.none, (.ref 605), (.ref 606), (.ref 607), (.int (987) 0), (.int (301) 0), (.str "/claim/cut.py" 988)] : List Value))⟩), ⟨[]⟩⟩
def o_107_609 (P : Params) : Obj := ⟨(.type "function"), none, (.func ⟨"at_most", "at_most", defArgs (top 71), .stmts (defBody (top 71)), defScope (top 71), 3, [], .none, .none, .none, (.str "tenwhole.comparing" 875), none, (.ref 608), .none, 0⟩), ⟨[]⟩⟩
def o_107_610 (P : Params) : Obj := ⟨(.type "tuple"), none, (.seq ⟨([] : List Value)⟩ 0), ⟨[]⟩⟩
def o_107_611 (P : Params) : Obj := ⟨.none, none, (.fields ⟨([] : List Value)⟩), ⟨[]⟩⟩
def o_107_612 (P : Params) : Obj := ⟨(.type "tuple"), none, (.seq ⟨(([(.str "a" 993)] : List Value))⟩ 0), ⟨[]⟩⟩
def o_107_613 (P : Params) : Obj := ⟨(.type "tuple"), none, (.seq ⟨([] : List Value)⟩ 0), ⟨[]⟩⟩
def o_107_614 (P : Params) : Obj := ⟨.none, none, (.func ⟨"is_quiet", "is_quiet", defArgs (top 72), .stmts (defBody (top 72)), defScope (top 72), 0, [], .none, .none, .none, .none, none, .none, .none, 0⟩), ⟨[]⟩⟩
def o_107_615 (P : Params) : Obj := ⟨(.type "code"), none, (.fields ⟨(([(.str "is_quiet" 990), (.str "is_quiet" 991), (.str "/claim/cut.py" 992), (.int (305) 0), (.int (1) 0), (.int (0) 0), (.int (0) 0), (.int (3) 0), (.ref 610), (.bool true), (.int (181) 0), (.ref 611)] : List Value) ++ ([.none, (.ref 612), (.ref 613), (.ref 614), (.int (994) 0), (.int (305) 0), (.str "/claim/cut.py" 995)] : List Value))⟩), ⟨[]⟩⟩
def o_107_616 (P : Params) : Obj := ⟨(.type "function"), none, (.func ⟨"is_quiet", "is_quiet", defArgs (top 72), .stmts (defBody (top 72)), defScope (top 72), 3, [], .none, .none, .none, (.str "tenwhole.comparing" 875), none, (.ref 615), .none, 0⟩), ⟨[]⟩⟩
def o_107_617 (P : Params) : Obj := ⟨(.type "tuple"), none, (.seq ⟨([] : List Value)⟩ 0), ⟨[]⟩⟩
def o_107_618 (P : Params) : Obj := ⟨.none, none, (.fields ⟨([] : List Value)⟩), ⟨[]⟩⟩
def o_107_619 (P : Params) : Obj := ⟨(.type "tuple"), none, (.seq ⟨(([(.str "rules" 1000), (.str "a" 1001), (.str "b" 1002), (.str "order_by" 1003), (.str "side" 1004), (.str "found" 1005), (.str "order" 1006)] : List Value))⟩ 0), ⟨[]⟩⟩
def o_107_620 (P : Params) : Obj := ⟨(.type "tuple"), none, (.seq ⟨([] : List Value)⟩ 0), ⟨[]⟩⟩
def o_107_621 (P : Params) : Obj := ⟨.none, none, (.func ⟨"picked", "picked", defArgs (top 73), .stmts (defBody (top 73)), defScope (top 73), 0, [], .none, .none, .none, .none, none, .none, .none, 0⟩), ⟨[]⟩⟩
def o_107_622 (P : Params) : Obj := ⟨(.type "code"), none, (.fields ⟨(([(.str "picked" 997), (.str "picked" 998), (.str "/claim/cut.py" 999), (.int (307) 0), (.int (5) 0), (.int (0) 0), (.int (0) 0), (.int (3) 0), (.ref 617), (.bool true), (.int (181) 0), (.ref 618)] : List Value) ++ ([.none, (.ref 619), (.ref 620), (.ref 621), (.int (1007) 0), (.int (307) 0), (.str "/claim/cut.py" 1008)] : List Value))⟩), ⟨[]⟩⟩
def o_107_623 (P : Params) : Obj := ⟨(.type "function"), none, (.func ⟨"picked", "picked", defArgs (top 73), .stmts (defBody (top 73)), defScope (top 73), 3, [], .none, .none, .none, (.str "tenwhole.comparing" 875), none, (.ref 622), .none, 0⟩), ⟨[]⟩⟩
def o_107_624 (P : Params) : Obj := ⟨(.type "tuple"), none, (.seq ⟨([] : List Value)⟩ 0), ⟨[]⟩⟩
def o_107_625 (P : Params) : Obj := ⟨.none, none, (.fields ⟨([] : List Value)⟩), ⟨[]⟩⟩
def o_107_626 (P : Params) : Obj := ⟨(.type "tuple"), none, (.seq ⟨(([(.str "a" 1013), (.str "b" 1014)] : List Value))⟩ 0), ⟨[]⟩⟩
def o_107_627 (P : Params) : Obj := ⟨(.type "tuple"), none, (.seq ⟨([] : List Value)⟩ 0), ⟨[]⟩⟩
def o_107_628 (P : Params) : Obj := ⟨.none, none, (.func ⟨"size_by", "size_by", defArgs (top 74), .stmts (defBody (top 74)), defScope (top 74), 0, [], .none, .none, .none, .none, none, .none, .none, 0⟩), ⟨[]⟩⟩
def o_107_629 (P : Params) : Obj := ⟨(.type "code"), none, (.fields ⟨(([(.str "size_by" 1010), (.str "size_by" 1011), (.str "/claim/cut.py" 1012), (.int (319) 0), (.int (2) 0), (.int (0) 0), (.int (0) 0), (.int (3) 0), (.ref 624), (.bool true), (.int (181) 0), (.ref 625)] : List Value) ++ ([.none, (.ref 626), (.ref 627), (.ref 628), (.int (1015) 0), (.int (319) 0), (.str "/claim/cut.py" 1016)] : List Value))⟩), ⟨[]⟩⟩
def o_107_630 (P : Params) : Obj := ⟨(.type "function"), none, (.func ⟨"size_by", "size_by", defArgs (top 74), .stmts (defBody (top 74)), defScope (top 74), 3, [], .none, .none, .none, (.str "tenwhole.comparing" 875), none, (.ref 629), .none, 0⟩), ⟨[]⟩⟩
def o_107_631 (P : Params) : Obj := ⟨(.type "tuple"), none, (.seq ⟨([] : List Value)⟩ 0), ⟨[]⟩⟩
def o_107_632 (P : Params) : Obj := ⟨.none, none, (.fields ⟨([] : List Value)⟩), ⟨[]⟩⟩
def o_107_633 (P : Params) : Obj := ⟨(.type "tuple"), none, (.seq ⟨(([(.str "rules" 1021), (.str "a" 1022), (.str "b" 1023)] : List Value))⟩ 0), ⟨[]⟩⟩
def o_107_634 (P : Params) : Obj := ⟨(.type "tuple"), none, (.seq ⟨([] : List Value)⟩ 0), ⟨[]⟩⟩
def o_107_635 (P : Params) : Obj := ⟨.none, none, (.func ⟨"greater_of", "greater_of", defArgs (top 75), .stmts (defBody (top 75)), defScope (top 75), 0, [], .none, .none, .none, .none, none, .none, .none, 0⟩), ⟨[]⟩⟩
def o_107_636 (P : Params) : Obj := ⟨(.type "code"), none, (.fields ⟨(([(.str "greater_of" 1018), (.str "greater_of" 1019), (.str "/claim/cut.py" 1020), (.int (321) 0), (.int (3) 0), (.int (0) 0), (.int (0) 0), (.int (3) 0), (.ref 631), (.bool true), (.int (181) 0), (.ref 632)] : List Value) ++ ([.none, (.ref 633), (.ref 634), (.ref 635), (.int (1024) 0), (.int (321) 0), (.str "/claim/cut.py" 1025)] : List Value))⟩), ⟨[]⟩⟩
def o_107_637 (P : Params) : Obj := ⟨(.type "function"), none, (.func ⟨"greater_of", "greater_of", defArgs (top 75), .stmts (defBody (top 75)), defScope (top 75), 3, [], .none, .none, .none, (.str "tenwhole.comparing" 875), none, (.ref 636), .none, 0⟩), ⟨[]⟩⟩
def o_107_638 (P : Params) : Obj := ⟨(.type "tuple"), none, (.seq ⟨([] : List Value)⟩ 0), ⟨[]⟩⟩
def o_107_639 (P : Params) : Obj := ⟨.none, none, (.fields ⟨([] : List Value)⟩), ⟨[]⟩⟩
def o_107_640 (P : Params) : Obj := ⟨(.type "tuple"), none, (.seq ⟨(([(.str "rules" 1030), (.str "a" 1031), (.str "b" 1032)] : List Value))⟩ 0), ⟨[]⟩⟩
def o_107_641 (P : Params) : Obj := ⟨(.type "tuple"), none, (.seq ⟨([] : List Value)⟩ 0), ⟨[]⟩⟩
def o_107_642 (P : Params) : Obj := ⟨.none, none, (.func ⟨"lesser_of", "lesser_of", defArgs (top 76), .stmts (defBody (top 76)), defScope (top 76), 0, [], .none, .none, .none, .none, none, .none, .none, 0⟩), ⟨[]⟩⟩
def o_107_643 (P : Params) : Obj := ⟨(.type "code"), none, (.fields ⟨(([(.str "lesser_of" 1027), (.str "lesser_of" 1028), (.str "/claim/cut.py" 1029), (.int (323) 0), (.int (3) 0), (.int (0) 0), (.int (0) 0), (.int (3) 0), (.ref 638), (.bool true), (.int (181) 0), (.ref 639)] : List Value) ++ ([.none, (.ref 640), (.ref 641), (.ref 642), (.int (1033) 0), (.int (323) 0), (.str "/claim/cut.py" 1034)] : List Value))⟩), ⟨[]⟩⟩
def o_107_644 (P : Params) : Obj := ⟨(.type "function"), none, (.func ⟨"lesser_of", "lesser_of", defArgs (top 76), .stmts (defBody (top 76)), defScope (top 76), 3, [], .none, .none, .none, (.str "tenwhole.comparing" 875), none, (.ref 643), .none, 0⟩), ⟨[]⟩⟩
def o_107_645 (P : Params) : Obj := ⟨(.type "tuple"), none, (.seq ⟨([] : List Value)⟩ 0), ⟨[]⟩⟩
def o_107_646 (P : Params) : Obj := ⟨.none, none, (.fields ⟨([] : List Value)⟩), ⟨[]⟩⟩
def o_107_647 (P : Params) : Obj := ⟨(.type "tuple"), none, (.seq ⟨(([(.str "rules" 1039), (.str "a" 1040), (.str "b" 1041)] : List Value))⟩ 0), ⟨[]⟩⟩
def o_107_648 (P : Params) : Obj := ⟨(.type "tuple"), none, (.seq ⟨([] : List Value)⟩ 0), ⟨[]⟩⟩
def o_107_649 (P : Params) : Obj := ⟨.none, none, (.func ⟨"greater_mag", "greater_mag", defArgs (top 77), .stmts (defBody (top 77)), defScope (top 77), 0, [], .none, .none, .none, .none, none, .none, .none, 0⟩), ⟨[]⟩⟩
def o_107_650 (P : Params) : Obj := ⟨(.type "code"), none, (.fields ⟨(([(.str "greater_mag" 1036), (.str "greater_mag" 1037), (.str "/claim/cut.py" 1038), (.int (325) 0), (.int (3) 0), (.int (0) 0), (.int (0) 0), (.int (3) 0), (.ref 645), (.bool true), (.int (181) 0), (.ref 646)] : List Value) ++ ([.none, (.ref 647), (.ref 648), (.ref 649), (.int (1042) 0), (.int (325) 0), (.str "/claim/cut.py" 1043)] : List Value))⟩), ⟨[]⟩⟩
def o_107_651 (P : Params) : Obj := ⟨(.type "function"), none, (.func ⟨"greater_mag", "greater_mag", defArgs (top 77), .stmts (defBody (top 77)), defScope (top 77), 3, [], .none, .none, .none, (.str "tenwhole.comparing" 875), none, (.ref 650), .none, 0⟩), ⟨[]⟩⟩
def o_107_652 (P : Params) : Obj := ⟨(.type "tuple"), none, (.seq ⟨([] : List Value)⟩ 0), ⟨[]⟩⟩
def o_107_653 (P : Params) : Obj := ⟨.none, none, (.fields ⟨([] : List Value)⟩), ⟨[]⟩⟩
def o_107_654 (P : Params) : Obj := ⟨(.type "tuple"), none, (.seq ⟨(([(.str "rules" 1048), (.str "a" 1049), (.str "b" 1050)] : List Value))⟩ 0), ⟨[]⟩⟩
def o_107_655 (P : Params) : Obj := ⟨(.type "tuple"), none, (.seq ⟨([] : List Value)⟩ 0), ⟨[]⟩⟩
def o_107_656 (P : Params) : Obj := ⟨.none, none, (.func ⟨"lesser_mag", "lesser_mag", defArgs (top 78), .stmts (defBody (top 78)), defScope (top 78), 0, [], .none, .none, .none, .none, none, .none, .none, 0⟩), ⟨[]⟩⟩
def o_107_657 (P : Params) : Obj := ⟨(.type "code"), none, (.fields ⟨(([(.str "lesser_mag" 1045), (.str "lesser_mag" 1046), (.str "/claim/cut.py" 1047), (.int (327) 0), (.int (3) 0), (.int (0) 0), (.int (0) 0), (.int (3) 0), (.ref 652), (.bool true), (.int (181) 0), (.ref 653)] : List Value) ++ ([.none, (.ref 654), (.ref 655), (.ref 656), (.int (1051) 0), (.int (327) 0), (.str "/claim/cut.py" 1052)] : List Value))⟩), ⟨[]⟩⟩
def o_107_658 (P : Params) : Obj := ⟨(.type "function"), none, (.func ⟨"lesser_mag", "lesser_mag", defArgs (top 78), .stmts (defBody (top 78)), defScope (top 78), 3, [], .none, .none, .none, (.str "tenwhole.comparing" 875), none, (.ref 657), .none, 0⟩), ⟨[]⟩⟩
def o_107_659 (P : Params) : Obj := ⟨(.type "tuple"), none, (.seq ⟨([] : List Value)⟩ 0), ⟨[]⟩⟩
def o_107_660 (P : Params) : Obj := ⟨.none, none, (.fields ⟨([] : List Value)⟩), ⟨[]⟩⟩
def o_107_661 (P : Params) : Obj := ⟨(.type "tuple"), none, (.seq ⟨(([(.str "rules" 1057), (.str "a" 1058)] : List Value))⟩ 0), ⟨[]⟩⟩
def o_107_662 (P : Params) : Obj := ⟨(.type "tuple"), none, (.seq ⟨([] : List Value)⟩ 0), ⟨[]⟩⟩
def o_107_663 (P : Params) : Obj := ⟨.none, none, (.func ⟨"is_low", "is_low", defArgs (top 79), .stmts (defBody (top 79)), defScope (top 79), 0, [], .none, .none, .none, .none, none, .none, .none, 0⟩), ⟨[]⟩⟩
def o_107_664 (P : Params) : Obj := ⟨(.type "code"), none, (.fields ⟨(([(.str "is_low" 1054), (.str "is_low" 1055), (.str "/claim/cut.py" 1056), (.int (329) 0), (.int (2) 0), (.int (0) 0), (.int (0) 0), (.int (3) 0), (.ref 659), (.bool true), (.int (181) 0), (.ref 660)] : List Value) ++ ([.none, (.ref 661), (.ref 662), (.ref 663), (.int (1059) 0), (.int (329) 0), (.str "/claim/cut.py" 1060)] : List Value))⟩), ⟨[]⟩⟩
def o_107_665 (P : Params) : Obj := ⟨(.type "function"), none, (.func ⟨"is_low", "is_low", defArgs (top 79), .stmts (defBody (top 79)), defScope (top 79), 3, [], .none, .none, .none, (.str "tenwhole.comparing" 875), none, (.ref 664), .none, 0⟩), ⟨[]⟩⟩
def o_107_666 (P : Params) : Obj := ⟨(.type "tuple"), none, (.seq ⟨([] : List Value)⟩ 0), ⟨[]⟩⟩
def o_107_667 (P : Params) : Obj := ⟨.none, none, (.fields ⟨([] : List Value)⟩), ⟨[]⟩⟩
def o_107_668 (P : Params) : Obj := ⟨(.type "tuple"), none, (.seq ⟨(([(.str "rules" 1065), (.str "a" 1066)] : List Value))⟩ 0), ⟨[]⟩⟩
def o_107_669 (P : Params) : Obj := ⟨(.type "tuple"), none, (.seq ⟨([] : List Value)⟩ 0), ⟨[]⟩⟩
def o_107_670 (P : Params) : Obj := ⟨.none, none, (.func ⟨"is_subnormal", "is_subnormal", defArgs (top 80), .stmts (defBody (top 80)), defScope (top 80), 0, [], .none, .none, .none, .none, none, .none, .none, 0⟩), ⟨[]⟩⟩
def o_107_671 (P : Params) : Obj := ⟨(.type "code"), none, (.fields ⟨(([(.str "is_subnormal" 1062), (.str "is_subnormal" 1063), (.str "/claim/cut.py" 1064), (.int (331) 0), (.int (2) 0), (.int (0) 0), (.int (0) 0), (.int (3) 0), (.ref 666), (.bool true), (.int (181) 0), (.ref 667)] : List Value) ++ ([.none, (.ref 668), (.ref 669), (.ref 670), (.int (1067) 0), (.int (331) 0), (.str "/claim/cut.py" 1068)] : List Value))⟩), ⟨[]⟩⟩
def o_107_672 (P : Params) : Obj := ⟨(.type "function"), none, (.func ⟨"is_subnormal", "is_subnormal", defArgs (top 80), .stmts (defBody (top 80)), defScope (top 80), 3, [], .none, .none, .none, (.str "tenwhole.comparing" 875), none, (.ref 671), .none, 0⟩), ⟨[]⟩⟩
def o_107_673 (P : Params) : Obj := ⟨(.type "tuple"), none, (.seq ⟨([] : List Value)⟩ 0), ⟨[]⟩⟩
def o_107_674 (P : Params) : Obj := ⟨.none, none, (.fields ⟨([] : List Value)⟩), ⟨[]⟩⟩
def o_107_675 (P : Params) : Obj := ⟨(.type "tuple"), none, (.seq ⟨(([(.str "rules" 1073), (.str "a" 1074)] : List Value))⟩ 0), ⟨[]⟩⟩
def o_107_676 (P : Params) : Obj := ⟨(.type "tuple"), none, (.seq ⟨([] : List Value)⟩ 0), ⟨[]⟩⟩
def o_107_677 (P : Params) : Obj := ⟨.none, none, (.func ⟨"is_normal", "is_normal", defArgs (top 81), .stmts (defBody (top 81)), defScope (top 81), 0, [], .none, .none, .none, .none, none, .none, .none, 0⟩), ⟨[]⟩⟩
def o_107_678 (P : Params) : Obj := ⟨(.type "code"), none, (.fields ⟨(([(.str "is_normal" 1070), (.str "is_normal" 1071), (.str "/claim/cut.py" 1072), (.int (333) 0), (.int (2) 0), (.int (0) 0), (.int (0) 0), (.int (3) 0), (.ref 673), (.bool true), (.int (181) 0), (.ref 674)] : List Value) ++ ([.none, (.ref 675), (.ref 676), (.ref 677), (.int (1075) 0), (.int (333) 0), (.str "/claim/cut.py" 1076)] : List Value))⟩), ⟨[]⟩⟩
def o_107_679 (P : Params) : Obj := ⟨(.type "function"), none, (.func ⟨"is_normal", "is_normal", defArgs (top 81), .stmts (defBody (top 81)), defScope (top 81), 3, [], .none, .none, .none, (.str "tenwhole.comparing" 875), none, (.ref 678), .none, 0⟩), ⟨[]⟩⟩
def o_107_680 (P : Params) : Obj := ⟨(.type "tuple"), none, (.seq ⟨([] : List Value)⟩ 0), ⟨[]⟩⟩
def o_107_681 (P : Params) : Obj := ⟨.none, none, (.fields ⟨([] : List Value)⟩), ⟨[]⟩⟩
def o_107_682 (P : Params) : Obj := ⟨(.type "tuple"), none, (.seq ⟨(([(.str "rules" 1081), (.str "a" 1082), (.str "word" 1083)] : List Value))⟩ 0), ⟨[]⟩⟩
def o_107_683 (P : Params) : Obj := ⟨(.type "tuple"), none, (.seq ⟨([] : List Value)⟩ 0), ⟨[]⟩⟩
def o_107_684 (P : Params) : Obj := ⟨.none, none, (.func ⟨"number_class", "number_class", defArgs (top 82), .stmts (defBody (top 82)), defScope (top 82), 0, [], .none, .none, .none, .none, none, .none, .none, 0⟩), ⟨[]⟩⟩
def o_107_685 (P : Params) : Obj := ⟨(.type "code"), none, (.fields ⟨(([(.str "number_class" 1078), (.str "number_class" 1079), (.str "/claim/cut.py" 1080), (.int (335) 0), (.int (2) 0), (.int (0) 0), (.int (0) 0), (.int (3) 0), (.ref 680), (.bool true), (.int (181) 0), (.ref 681)] : List Value) ++ ([.none, (.ref 682), (.ref 683), (.ref 684), (.int (1084) 0), (.int (335) 0), (.str "/claim/cut.py" 1085)] : List Value))⟩), ⟨[]⟩⟩
def o_107_686 (P : Params) : Obj := ⟨(.type "function"), none, (.func ⟨"number_class", "number_class", defArgs (top 82), .stmts (defBody (top 82)), defScope (top 82), 3, [], .none, .none, .none, (.str "tenwhole.comparing" 875), none, (.ref 685), .none, 0⟩), ⟨[]⟩⟩
def o_107_687 (P : Params) : Obj := ⟨(.type "tuple"), none, (.seq ⟨([] : List Value)⟩ 0), ⟨[]⟩⟩
def o_107_688 (P : Params) : Obj := ⟨.none, none, (.fields ⟨([] : List Value)⟩), ⟨[]⟩⟩
def o_107_689 (P : Params) : Obj := ⟨(.type "tuple"), none, (.seq ⟨(([(.str "a" 1092), (.str "sign" 1093)] : List Value))⟩ 0), ⟨[]⟩⟩
def o_107_690 (P : Params) : Obj := ⟨(.type "tuple"), none, (.seq ⟨([] : List Value)⟩ 0), ⟨[]⟩⟩
def o_107_691 (P : Params) : Obj := ⟨.none, none, (.func ⟨"with_sign", "with_sign", defArgs (top 84), .stmts (defBody (top 84)), defScope (top 84), 0, [], .none, .none, .none, .none, none, .none, .none, 0⟩), ⟨[]⟩⟩
def o_107_692 (P : Params) : Obj := ⟨(.type "code"), none, (.fields ⟨(([(.str "with_sign" 1089), (.str "with_sign" 1090), (.str "/claim/cut.py" 1091), (.int (346) 0), (.int (2) 0), (.int (0) 0), (.int (0) 0), (.int (3) 0), (.ref 687), (.bool true), (.int (181) 0), (.ref 688)] : List Value) ++ ([.none, (.ref 689), (.ref 690), (.ref 691), (.int (1094) 0), (.int (346) 0), (.str "/claim/cut.py" 1095)] : List Value))⟩), ⟨[]⟩⟩
def o_107_693 (P : Params) : Obj := ⟨(.type "function"), none, (.func ⟨"with_sign", "with_sign", defArgs (top 84), .stmts (defBody (top 84)), defScope (top 84), 3, [], .none, .none, .none, (.str "tenwhole.copies" 1087), none, (.ref 692), .none, 0⟩), ⟨[]⟩⟩
def o_107_694 (P : Params) : Obj := ⟨(.type "tuple"), none, (.seq ⟨([] : List Value)⟩ 0), ⟨[]⟩⟩
def o_107_695 (P : Params) : Obj := ⟨.none, none, (.fields ⟨([] : List Value)⟩), ⟨[]⟩⟩
def o_107_696 (P : Params) : Obj := ⟨(.type "tuple"), none, (.seq ⟨(([(.str "name" 1101), (.str "a" 1102)] : List Value))⟩ 0), ⟨[]⟩⟩
def o_107_697 (P : Params) : Obj := ⟨(.type "tuple"), none, (.seq ⟨([] : List Value)⟩ 0), ⟨[]⟩⟩
def o_107_698 (P : Params) : Obj := ⟨.none, none, (.func ⟨"answer_to", "answer_to", defArgs (top 86), .stmts (defBody (top 86)), defScope (top 86), 0, [], .none, .none, .none, .none, none, .none, .none, 0⟩), ⟨[]⟩⟩
def o_107_699 (P : Params) : Obj := ⟨(.type "code"), none, (.fields ⟨(([(.str "answer_to" 1098), (.str "answer_to" 1099), (.str "/claim/cut.py" 1100), (.int (349) 0), (.int (2) 0), (.int (0) 0), (.int (0) 0), (.int (3) 0), (.ref 694), (.bool true), (.int (181) 0), (.ref 695)] : List Value) ++ ([.none, (.ref 696), (.ref 697), (.ref 698), (.int (1103) 0), (.int (349) 0), (.str "/claim/cut.py" 1104)] : List Value))⟩), ⟨[]⟩⟩
def o_107_700 (P : Params) : Obj := ⟨(.type "function"), none, (.func ⟨"answer_to", "answer_to", defArgs (top 86), .stmts (defBody (top 86)), defScope (top 86), 3, [], .none, .none, .none, (.str "tenwhole.copies" 1087), none, (.ref 699), .none, 0⟩), ⟨[]⟩⟩
def o_107_701 (P : Params) : Obj := ⟨(.type "tuple"), none, (.seq ⟨([] : List Value)⟩ 0), ⟨[]⟩⟩
def o_107_702 (P : Params) : Obj := ⟨.none, none, (.fields ⟨([] : List Value)⟩), ⟨[]⟩⟩
def o_107_703 (P : Params) : Obj := ⟨(.type "tuple"), none, (.seq ⟨(([(.str "name" 1109), (.str "a" 1110)] : List Value))⟩ 0), ⟨[]⟩⟩
def o_107_704 (P : Params) : Obj := ⟨(.type "tuple"), none, (.seq ⟨([] : List Value)⟩ 0), ⟨[]⟩⟩
def o_107_705 (P : Params) : Obj := ⟨.none, none, (.func ⟨"copy_of", "copy_of", defArgs (top 87), .stmts (defBody (top 87)), defScope (top 87), 0, [], .none, .none, .none, .none, none, .none, .none, 0⟩), ⟨[]⟩⟩
def o_107_706 (P : Params) : Obj := ⟨(.type "code"), none, (.fields ⟨(([(.str "copy_of" 1106), (.str "copy_of" 1107), (.str "/claim/cut.py" 1108), (.int (363) 0), (.int (2) 0), (.int (0) 0), (.int (0) 0), (.int (3) 0), (.ref 701), (.bool true), (.int (181) 0), (.ref 702)] : List Value) ++ ([.none, (.ref 703), (.ref 704), (.ref 705), (.int (1111) 0), (.int (363) 0), (.str "/claim/cut.py" 1112)] : List Value))⟩), ⟨[]⟩⟩
def o_107_707 (P : Params) : Obj := ⟨(.type "function"), none, (.func ⟨"copy_of", "copy_of", defArgs (top 87), .stmts (defBody (top 87)), defScope (top 87), 3, [], .none, .none, .none, (.str "tenwhole.copies" 1087), none, (.ref 706), .none, 0⟩), ⟨[]⟩⟩
def o_107_708 (P : Params) : Obj := ⟨(.type "tuple"), none, (.seq ⟨([] : List Value)⟩ 0), ⟨[]⟩⟩
def o_107_709 (P : Params) : Obj := ⟨.none, none, (.fields ⟨([] : List Value)⟩), ⟨[]⟩⟩
def o_107_710 (P : Params) : Obj := ⟨(.type "tuple"), none, (.seq ⟨(([(.str "rules" 1119), (.str "sign" 1120)] : List Value))⟩ 0), ⟨[]⟩⟩
def o_107_711 (P : Params) : Obj := ⟨(.type "tuple"), none, (.seq ⟨([] : List Value)⟩ 0), ⟨[]⟩⟩
def o_107_712 (P : Params) : Obj := ⟨.none, none, (.func ⟨"greatest", "greatest", defArgs (top 89), .stmts (defBody (top 89)), defScope (top 89), 0, [], .none, .none, .none, .none, none, .none, .none, 0⟩), ⟨[]⟩⟩
def o_107_713 (P : Params) : Obj := ⟨(.type "code"), none, (.fields ⟨(([(.str "greatest" 1116), (.str "greatest" 1117), (.str "/claim/cut.py" 1118), (.int (368) 0), (.int (2) 0), (.int (0) 0), (.int (0) 0), (.int (3) 0), (.ref 708), (.bool true), (.int (181) 0), (.ref 709)] : List Value) ++ ([.none, (.ref 710), (.ref 711), (.ref 712), (.int (1121) 0), (.int (368) 0), (.str "/claim/cut.py" 1122)] : List Value))⟩), ⟨[]⟩⟩
def o_107_714 (P : Params) : Obj := ⟨(.type "function"), none, (.func ⟨"greatest", "greatest", defArgs (top 89), .stmts (defBody (top 89)), defScope (top 89), 3, [], .none, .none, .none, (.str "tenwhole.neighbours" 1114), none, (.ref 713), .none, 0⟩), ⟨[]⟩⟩
def o_107_715 (P : Params) : Obj := ⟨(.type "tuple"), none, (.seq ⟨([] : List Value)⟩ 0), ⟨[]⟩⟩
def o_107_716 (P : Params) : Obj := ⟨.none, none, (.fields ⟨([] : List Value)⟩), ⟨[]⟩⟩
def o_107_717 (P : Params) : Obj := ⟨(.type "tuple"), none, (.seq ⟨(([(.str "rules" 1127), (.str "kept" 1128), (.str "sign" 1129), (.str "unit" 1130), (.str "whole" 1131)] : List Value))⟩ 0), ⟨[]⟩⟩
def o_107_718 (P : Params) : Obj := ⟨(.type "tuple"), none, (.seq ⟨([] : List Value)⟩ 0), ⟨[]⟩⟩
def o_107_719 (P : Params) : Obj := ⟨.none, none, (.func ⟨"stepped", "stepped", defArgs (top 90), .stmts (defBody (top 90)), defScope (top 90), 0, [], .none, .none, .none, .none, none, .none, .none, 0⟩), ⟨[]⟩⟩
def o_107_720 (P : Params) : Obj := ⟨(.type "code"), none, (.fields ⟨(([(.str "stepped" 1124), (.str "stepped" 1125), (.str "/claim/cut.py" 1126), (.int (370) 0), (.int (3) 0), (.int (0) 0), (.int (0) 0), (.int (3) 0), (.ref 715), (.bool true), (.int (181) 0), (.ref 716)] : List Value) ++ ([.none, (.ref 717), (.ref 718), (.ref 719), (.int (1132) 0), (.int (370) 0), (.str "/claim/cut.py" 1133)] : List Value))⟩), ⟨[]⟩⟩
def o_107_721 (P : Params) : Obj := ⟨(.type "function"), none, (.func ⟨"stepped", "stepped", defArgs (top 90), .stmts (defBody (top 90)), defScope (top 90), 3, [], .none, .none, .none, (.str "tenwhole.neighbours" 1114), none, (.ref 720), .none, 0⟩), ⟨[]⟩⟩
def o_107_722 (P : Params) : Obj := ⟨(.type "tuple"), none, (.seq ⟨([] : List Value)⟩ 0), ⟨[]⟩⟩
def o_107_723 (P : Params) : Obj := ⟨.none, none, (.fields ⟨([] : List Value)⟩), ⟨[]⟩⟩
def o_107_724 (P : Params) : Obj := ⟨(.type "tuple"), none, (.seq ⟨(([(.str "rules" 1138), (.str "a" 1139), (.str "sign" 1140), (.str "turned" 1141), (.str "kept" 1142), (.str "conditions" 1143)] : List Value))⟩ 0), ⟨[]⟩⟩
def o_107_725 (P : Params) : Obj := ⟨(.type "tuple"), none, (.seq ⟨([] : List Value)⟩ 0), ⟨[]⟩⟩
def o_107_726 (P : Params) : Obj := ⟨.none, none, (.func ⟨"neighbour", "neighbour", defArgs (top 91), .stmts (defBody (top 91)), defScope (top 91), 0, [], .none, .none, .none, .none, none, .none, .none, 0⟩), ⟨[]⟩⟩
def o_107_727 (P : Params) : Obj := ⟨(.type "code"), none, (.fields ⟨(([(.str "neighbour" 1135), (.str "neighbour" 1136), (.str "/claim/cut.py" 1137), (.int (380) 0), (.int (3) 0), (.int (0) 0), (.int (0) 0), (.int (3) 0), (.ref 722), (.bool true), (.int (181) 0), (.ref 723)] : List Value) ++ ([.none, (.ref 724), (.ref 725), (.ref 726), (.int (1144) 0), (.int (380) 0), (.str "/claim/cut.py" 1145)] : List Value))⟩), ⟨[]⟩⟩
def o_107_728 (P : Params) : Obj := ⟨(.type "function"), none, (.func ⟨"neighbour", "neighbour", defArgs (top 91), .stmts (defBody (top 91)), defScope (top 91), 3, [], .none, .none, .none, (.str "tenwhole.neighbours" 1114), none, (.ref 727), .none, 0⟩), ⟨[]⟩⟩
def o_107_729 (P : Params) : Obj := ⟨(.type "tuple"), none, (.seq ⟨([] : List Value)⟩ 0), ⟨[]⟩⟩
def o_107_730 (P : Params) : Obj := ⟨.none, none, (.fields ⟨([] : List Value)⟩), ⟨[]⟩⟩
def o_107_731 (P : Params) : Obj := ⟨(.type "tuple"), none, (.seq ⟨(([(.str "rules" 1150), (.str "a" 1151), (.str "found" 1152)] : List Value))⟩ 0), ⟨[]⟩⟩
def o_107_732 (P : Params) : Obj := ⟨(.type "tuple"), none, (.seq ⟨([] : List Value)⟩ 0), ⟨[]⟩⟩
def o_107_733 (P : Params) : Obj := ⟨.none, none, (.func ⟨"next_plus", "next_plus", defArgs (top 92), .stmts (defBody (top 92)), defScope (top 92), 0, [], .none, .none, .none, .none, none, .none, .none, 0⟩), ⟨[]⟩⟩
def o_107_734 (P : Params) : Obj := ⟨(.type "code"), none, (.fields ⟨(([(.str "next_plus" 1147), (.str "next_plus" 1148), (.str "/claim/cut.py" 1149), (.int (386) 0), (.int (2) 0), (.int (0) 0), (.int (0) 0), (.int (3) 0), (.ref 729), (.bool true), (.int (181) 0), (.ref 730)] : List Value) ++ ([.none, (.ref 731), (.ref 732), (.ref 733), (.int (1153) 0), (.int (386) 0), (.str "/claim/cut.py" 1154)] : List Value))⟩), ⟨[]⟩⟩
def o_107_735 (P : Params) : Obj := ⟨(.type "function"), none, (.func ⟨"next_plus", "next_plus", defArgs (top 92), .stmts (defBody (top 92)), defScope (top 92), 3, [], .none, .none, .none, (.str "tenwhole.neighbours" 1114), none, (.ref 734), .none, 0⟩), ⟨[]⟩⟩
def o_107_736 (P : Params) : Obj := ⟨(.type "tuple"), none, (.seq ⟨([] : List Value)⟩ 0), ⟨[]⟩⟩
def o_107_737 (P : Params) : Obj := ⟨.none, none, (.fields ⟨([] : List Value)⟩), ⟨[]⟩⟩
def o_107_738 (P : Params) : Obj := ⟨(.type "tuple"), none, (.seq ⟨(([(.str "rules" 1159), (.str "a" 1160), (.str "found" 1161)] : List Value))⟩ 0), ⟨[]⟩⟩
def o_107_739 (P : Params) : Obj := ⟨(.type "tuple"), none, (.seq ⟨([] : List Value)⟩ 0), ⟨[]⟩⟩
def o_107_740 (P : Params) : Obj := ⟨.none, none, (.func ⟨"next_minus", "next_minus", defArgs (top 93), .stmts (defBody (top 93)), defScope (top 93), 0, [], .none, .none, .none, .none, none, .none, .none, 0⟩), ⟨[]⟩⟩
def o_107_741 (P : Params) : Obj := ⟨(.type "code"), none, (.fields ⟨(([(.str "next_minus" 1156), (.str "next_minus" 1157), (.str "/claim/cut.py" 1158), (.int (389) 0), (.int (2) 0), (.int (0) 0), (.int (0) 0), (.int (3) 0), (.ref 736), (.bool true), (.int (181) 0), (.ref 737)] : List Value) ++ ([.none, (.ref 738), (.ref 739), (.ref 740), (.int (1162) 0), (.int (389) 0), (.str "/claim/cut.py" 1163)] : List Value))⟩), ⟨[]⟩⟩
def o_107_742 (P : Params) : Obj := ⟨(.type "function"), none, (.func ⟨"next_minus", "next_minus", defArgs (top 93), .stmts (defBody (top 93)), defScope (top 93), 3, [], .none, .none, .none, (.str "tenwhole.neighbours" 1114), none, (.ref 741), .none, 0⟩), ⟨[]⟩⟩
def o_107_743 (P : Params) : Obj := ⟨(.type "tuple"), none, (.seq ⟨([] : List Value)⟩ 0), ⟨[]⟩⟩
def o_107_744 (P : Params) : Obj := ⟨.none, none, (.fields ⟨([] : List Value)⟩), ⟨[]⟩⟩
def o_107_745 (P : Params) : Obj := ⟨(.type "tuple"), none, (.seq ⟨(([(.str "rules" 1168), (.str "kept" 1169)] : List Value))⟩ 0), ⟨[]⟩⟩
def o_107_746 (P : Params) : Obj := ⟨(.type "tuple"), none, (.seq ⟨([] : List Value)⟩ 0), ⟨[]⟩⟩
def o_107_747 (P : Params) : Obj := ⟨.none, none, (.func ⟨"moved_by", "moved_by", defArgs (top 94), .stmts (defBody (top 94)), defScope (top 94), 0, [], .none, .none, .none, .none, none, .none, .none, 0⟩), ⟨[]⟩⟩
def o_107_748 (P : Params) : Obj := ⟨(.type "code"), none, (.fields ⟨(([(.str "moved_by" 1165), (.str "moved_by" 1166), (.str "/claim/cut.py" 1167), (.int (392) 0), (.int (2) 0), (.int (0) 0), (.int (0) 0), (.int (3) 0), (.ref 743), (.bool true), (.int (181) 0), (.ref 744)] : List Value) ++ ([.none, (.ref 745), (.ref 746), (.ref 747), (.int (1170) 0), (.int (392) 0), (.str "/claim/cut.py" 1171)] : List Value))⟩), ⟨[]⟩⟩
def o_107_749 (P : Params) : Obj := ⟨(.type "function"), none, (.func ⟨"moved_by", "moved_by", defArgs (top 94), .stmts (defBody (top 94)), defScope (top 94), 3, [], .none, .none, .none, (.str "tenwhole.neighbours" 1114), none, (.ref 748), .none, 0⟩), ⟨[]⟩⟩
def o_107_750 (P : Params) : Obj := ⟨(.type "tuple"), none, (.seq ⟨([] : List Value)⟩ 0), ⟨[]⟩⟩
def o_107_751 (P : Params) : Obj := ⟨.none, none, (.fields ⟨([] : List Value)⟩), ⟨[]⟩⟩
def o_107_752 (P : Params) : Obj := ⟨(.type "tuple"), none, (.seq ⟨(([(.str "rules" 1176), (.str "a" 1177), (.str "b" 1178), (.str "found" 1179), (.str "order" 1180), (.str "kept" 1181)] : List Value))⟩ 0), ⟨[]⟩⟩
def o_107_753 (P : Params) : Obj := ⟨(.type "tuple"), none, (.seq ⟨([] : List Value)⟩ 0), ⟨[]⟩⟩
def o_107_754 (P : Params) : Obj := ⟨.none, none, (.func ⟨"next_toward", "next_toward", defArgs (top 95), .stmts (defBody (top 95)), defScope (top 95), 0, [], .none, .none, .none, .none, none, .none, .none, 0⟩), ⟨[]⟩⟩
def o_107_755 (P : Params) : Obj := ⟨(.type "code"), none, (.fields ⟨(([(.str "next_toward" 1173), (.str "next_toward" 1174), (.str "/claim/cut.py" 1175), (.int (398) 0), (.int (3) 0), (.int (0) 0), (.int (0) 0), (.int (3) 0), (.ref 750), (.bool true), (.int (181) 0), (.ref 751)] : List Value) ++ ([.none, (.ref 752), (.ref 753), (.ref 754), (.int (1182) 0), (.int (398) 0), (.str "/claim/cut.py" 1183)] : List Value))⟩), ⟨[]⟩⟩
def o_107_756 (P : Params) : Obj := ⟨(.type "function"), none, (.func ⟨"next_toward", "next_toward", defArgs (top 95), .stmts (defBody (top 95)), defScope (top 95), 3, [], .none, .none, .none, (.str "tenwhole.neighbours" 1114), none, (.ref 755), .none, 0⟩), ⟨[]⟩⟩
def o_107_757 (P : Params) : Obj := ⟨(.type "tuple"), none, (.seq ⟨([] : List Value)⟩ 0), ⟨[]⟩⟩
def o_107_758 (P : Params) : Obj := ⟨.none, none, (.fields ⟨([] : List Value)⟩), ⟨[]⟩⟩
def o_107_759 (P : Params) : Obj := ⟨(.type "tuple"), none, (.seq ⟨(([(.str "rules" 1188), (.str "a" 1189), (.str "found" 1190)] : List Value))⟩ 0), ⟨[]⟩⟩
def o_107_760 (P : Params) : Obj := ⟨(.type "tuple"), none, (.seq ⟨([] : List Value)⟩ 0), ⟨[]⟩⟩
def o_107_761 (P : Params) : Obj := ⟨.none, none, (.func ⟨"logb", "logb", defArgs (top 96), .stmts (defBody (top 96)), defScope (top 96), 0, [], .none, .none, .none, .none, none, .none, .none, 0⟩), ⟨[]⟩⟩
def o_107_762 (P : Params) : Obj := ⟨(.type "code"), none, (.fields ⟨(([(.str "logb" 1185), (.str "logb" 1186), (.str "/claim/cut.py" 1187), (.int (407) 0), (.int (2) 0), (.int (0) 0), (.int (0) 0), (.int (3) 0), (.ref 757), (.bool true), (.int (181) 0), (.ref 758)] : List Value) ++ ([.none, (.ref 759), (.ref 760), (.ref 761), (.int (1191) 0), (.int (407) 0), (.str "/claim/cut.py" 1192)] : List Value))⟩), ⟨[]⟩⟩
def o_107_763 (P : Params) : Obj := ⟨(.type "function"), none, (.func ⟨"logb", "logb", defArgs (top 96), .stmts (defBody (top 96)), defScope (top 96), 3, [], .none, .none, .none, (.str "tenwhole.neighbours" 1114), none, (.ref 762), .none, 0⟩), ⟨[]⟩⟩
def o_107_764 (P : Params) : Obj := ⟨(.type "tuple"), none, (.seq ⟨([] : List Value)⟩ 0), ⟨[]⟩⟩
def o_107_765 (P : Params) : Obj := ⟨.none, none, (.fields ⟨([] : List Value)⟩), ⟨[]⟩⟩
def o_107_766 (P : Params) : Obj := ⟨(.type "tuple"), none, (.seq ⟨(([(.str "b" 1197), (.str "most" 1198)] : List Value))⟩ 0), ⟨[]⟩⟩
def o_107_767 (P : Params) : Obj := ⟨(.type "tuple"), none, (.seq ⟨([] : List Value)⟩ 0), ⟨[]⟩⟩
def o_107_768 (P : Params) : Obj := ⟨.none, none, (.func ⟨"is_step", "is_step", defArgs (top 97), .stmts (defBody (top 97)), defScope (top 97), 0, [], .none, .none, .none, .none, none, .none, .none, 0⟩), ⟨[]⟩⟩
def o_107_769 (P : Params) : Obj := ⟨(.type "code"), none, (.fields ⟨(([(.str "is_step" 1194), (.str "is_step" 1195), (.str "/claim/cut.py" 1196), (.int (416) 0), (.int (2) 0), (.int (0) 0), (.int (0) 0), (.int (3) 0), (.ref 764), (.bool true), (.int (181) 0), (.ref 765)] : List Value) ++ ([.none, (.ref 766), (.ref 767), (.ref 768), (.int (1199) 0), (.int (416) 0), (.str "/claim/cut.py" 1200)] : List Value))⟩), ⟨[]⟩⟩
def o_107_770 (P : Params) : Obj := ⟨(.type "function"), none, (.func ⟨"is_step", "is_step", defArgs (top 97), .stmts (defBody (top 97)), defScope (top 97), 3, [], .none, .none, .none, (.str "tenwhole.neighbours" 1114), none, (.ref 769), .none, 0⟩), ⟨[]⟩⟩
def o_107_771 (P : Params) : Obj := ⟨(.type "tuple"), none, (.seq ⟨([] : List Value)⟩ 0), ⟨[]⟩⟩
def o_107_772 (P : Params) : Obj := ⟨.none, none, (.fields ⟨([] : List Value)⟩), ⟨[]⟩⟩
def o_107_773 (P : Params) : Obj := ⟨(.type "tuple"), none, (.seq ⟨(([(.str "b" 1205)] : List Value))⟩ 0), ⟨[]⟩⟩
def o_107_774 (P : Params) : Obj := ⟨(.type "tuple"), none, (.seq ⟨([] : List Value)⟩ 0), ⟨[]⟩⟩
def o_107_775 (P : Params) : Obj := ⟨.none, none, (.func ⟨"signed", "signed", defArgs (top 98), .stmts (defBody (top 98)), defScope (top 98), 0, [], .none, .none, .none, .none, none, .none, .none, 0⟩), ⟨[]⟩⟩
def o_107_776 (P : Params) : Obj := ⟨(.type "code"), none, (.fields ⟨(([(.str "signed" 1202), (.str "signed" 1203), (.str "/claim/cut.py" 1204), (.int (418) 0), (.int (1) 0), (.int (0) 0), (.int (0) 0), (.int (3) 0), (.ref 771), (.bool true), (.int (181) 0), (.ref 772)] : List Value) ++ ([.none, (.ref 773), (.ref 774), (.ref 775), (.int (1206) 0), (.int (418) 0), (.str "/claim/cut.py" 1207)] : List Value))⟩), ⟨[]⟩⟩
def o_107_777 (P : Params) : Obj := ⟨(.type "function"), none, (.func ⟨"signed", "signed", defArgs (top 98), .stmts (defBody (top 98)), defScope (top 98), 3, [], .none, .none, .none, (.str "tenwhole.neighbours" 1114), none, (.ref 776), .none, 0⟩), ⟨[]⟩⟩
def o_107_778 (P : Params) : Obj := ⟨(.type "tuple"), none, (.seq ⟨([] : List Value)⟩ 0), ⟨[]⟩⟩
def o_107_779 (P : Params) : Obj := ⟨.none, none, (.fields ⟨([] : List Value)⟩), ⟨[]⟩⟩
def o_107_780 (P : Params) : Obj := ⟨(.type "tuple"), none, (.seq ⟨(([(.str "rules" 1212), (.str "a" 1213), (.str "b" 1214), (.str "found" 1215)] : List Value))⟩ 0), ⟨[]⟩⟩
def o_107_781 (P : Params) : Obj := ⟨(.type "tuple"), none, (.seq ⟨([] : List Value)⟩ 0), ⟨[]⟩⟩
def o_107_782 (P : Params) : Obj := ⟨.none, none, (.func ⟨"scaleb", "scaleb", defArgs (top 99), .stmts (defBody (top 99)), defScope (top 99), 0, [], .none, .none, .none, .none, none, .none, .none, 0⟩), ⟨[]⟩⟩
def o_107_783 (P : Params) : Obj := ⟨(.type "code"), none, (.fields ⟨(([(.str "scaleb" 1209), (.str "scaleb" 1210), (.str "/claim/cut.py" 1211), (.int (420) 0), (.int (3) 0), (.int (0) 0), (.int (0) 0), (.int (3) 0), (.ref 778), (.bool true), (.int (181) 0), (.ref 779)] : List Value) ++ ([.none, (.ref 780), (.ref 781), (.ref 782), (.int (1216) 0), (.int (420) 0), (.str "/claim/cut.py" 1217)] : List Value))⟩), ⟨[]⟩⟩
def o_107_784 (P : Params) : Obj := ⟨(.type "function"), none, (.func ⟨"scaleb", "scaleb", defArgs (top 99), .stmts (defBody (top 99)), defScope (top 99), 3, [], .none, .none, .none, (.str "tenwhole.neighbours" 1114), none, (.ref 783), .none, 0⟩), ⟨[]⟩⟩
def o_107_785 (P : Params) : Obj := ⟨(.type "tuple"), none, (.seq ⟨([] : List Value)⟩ 0), ⟨[]⟩⟩
def o_107_786 (P : Params) : Obj := ⟨.none, none, (.fields ⟨([] : List Value)⟩), ⟨[]⟩⟩
def o_107_787 (P : Params) : Obj := ⟨(.type "tuple"), none, (.seq ⟨(([(.str "rules" 1226), (.str "a" 1227), (.str "exponent" 1228), (.str "cut" 1229), (.str "coefficient" 1230), (.str "is_inexact" 1231)] : List Value))⟩ 0), ⟨[]⟩⟩
def o_107_788 (P : Params) : Obj := ⟨(.type "tuple"), none, (.seq ⟨([] : List Value)⟩ 0), ⟨[]⟩⟩
def o_107_789 (P : Params) : Obj := ⟨.none, none, (.func ⟨"placed", "placed", defArgs (top 102), .stmts (defBody (top 102)), defScope (top 102), 0, [], .none, .none, .none, .none, none, .none, .none, 0⟩), ⟨[]⟩⟩
def o_107_790 (P : Params) : Obj := ⟨(.type "code"), none, (.fields ⟨(([(.str "placed" 1223), (.str "placed" 1224), (.str "/claim/cut.py" 1225), (.int (431) 0), (.int (3) 0), (.int (0) 0), (.int (0) 0), (.int (3) 0), (.ref 785), (.bool true), (.int (181) 0), (.ref 786)] : List Value) ++ ([.none, (.ref 787), (.ref 788), (.ref 789), (.int (1232) 0), (.int (431) 0), (.str "/claim/cut.py" 1233)] : List Value))⟩), ⟨[]⟩⟩
def o_107_791 (P : Params) : Obj := ⟨(.type "function"), none, (.func ⟨"placed", "placed", defArgs (top 102), .stmts (defBody (top 102)), defScope (top 102), 3, [], .none, .none, .none, (.str "tenwhole.places" 1219), none, (.ref 790), .none, 0⟩), ⟨[]⟩⟩
def o_107_792 (P : Params) : Obj := ⟨(.type "tuple"), none, (.seq ⟨([] : List Value)⟩ 0), ⟨[]⟩⟩
def o_107_793 (P : Params) : Obj := ⟨.none, none, (.fields ⟨([] : List Value)⟩), ⟨[]⟩⟩
def o_107_794 (P : Params) : Obj := ⟨(.type "tuple"), none, (.seq ⟨(([(.str "rules" 1238), (.str "a" 1239), (.str "b" 1240), (.str "found" 1241), (.str "coefficient" 1242), (.str "signals" 1243), (.str "many" 1244), (.str "result" 1245), (.str "others" 1246)] : List Value))⟩ 0), ⟨[]⟩⟩
def o_107_795 (P : Params) : Obj := ⟨(.type "tuple"), none, (.seq ⟨([] : List Value)⟩ 0), ⟨[]⟩⟩
def o_107_796 (P : Params) : Obj := ⟨.none, none, (.func ⟨"quantize", "quantize", defArgs (top 103), .stmts (defBody (top 103)), defScope (top 103), 0, [], .none, .none, .none, .none, none, .none, .none, 0⟩), ⟨[]⟩⟩
def o_107_797 (P : Params) : Obj := ⟨(.type "code"), none, (.fields ⟨(([(.str "quantize" 1235), (.str "quantize" 1236), (.str "/claim/cut.py" 1237), (.int (437) 0), (.int (3) 0), (.int (0) 0), (.int (0) 0), (.int (3) 0), (.ref 792), (.bool true), (.int (181) 0), (.ref 793)] : List Value) ++ ([.none, (.ref 794), (.ref 795), (.ref 796), (.int (1247) 0), (.int (437) 0), (.str "/claim/cut.py" 1248)] : List Value))⟩), ⟨[]⟩⟩
def o_107_798 (P : Params) : Obj := ⟨(.type "function"), none, (.func ⟨"quantize", "quantize", defArgs (top 103), .stmts (defBody (top 103)), defScope (top 103), 3, [], .none, .none, .none, (.str "tenwhole.places" 1219), none, (.ref 797), .none, 0⟩), ⟨[]⟩⟩
def o_107_799 (P : Params) : Obj := ⟨(.type "tuple"), none, (.seq ⟨([] : List Value)⟩ 0), ⟨[]⟩⟩
def o_107_800 (P : Params) : Obj := ⟨.none, none, (.fields ⟨([] : List Value)⟩), ⟨[]⟩⟩
def o_107_801 (P : Params) : Obj := ⟨(.type "tuple"), none, (.seq ⟨(([(.str "rules" 1253), (.str "a" 1254), (.str "b" 1255)] : List Value))⟩ 0), ⟨[]⟩⟩
def o_107_802 (P : Params) : Obj := ⟨(.type "tuple"), none, (.seq ⟨([] : List Value)⟩ 0), ⟨[]⟩⟩
def o_107_803 (P : Params) : Obj := ⟨.none, none, (.func ⟨"same_quantum", "same_quantum", defArgs (top 104), .stmts (defBody (top 104)), defScope (top 104), 0, [], .none, .none, .none, .none, none, .none, .none, 0⟩), ⟨[]⟩⟩
def o_107_804 (P : Params) : Obj := ⟨(.type "code"), none, (.fields ⟨(([(.str "same_quantum" 1250), (.str "same_quantum" 1251), (.str "/claim/cut.py" 1252), (.int (455) 0), (.int (3) 0), (.int (0) 0), (.int (0) 0), (.int (3) 0), (.ref 799), (.bool true), (.int (181) 0), (.ref 800)] : List Value) ++ ([.none, (.ref 801), (.ref 802), (.ref 803), (.int (1256) 0), (.int (455) 0), (.str "/claim/cut.py" 1257)] : List Value))⟩), ⟨[]⟩⟩
def o_107_805 (P : Params) : Obj := ⟨(.type "function"), none, (.func ⟨"same_quantum", "same_quantum", defArgs (top 104), .stmts (defBody (top 104)), defScope (top 104), 3, [], .none, .none, .none, (.str "tenwhole.places" 1219), none, (.ref 804), .none, 0⟩), ⟨[]⟩⟩
def o_107_806 (P : Params) : Obj := ⟨(.type "tuple"), none, (.seq ⟨([] : List Value)⟩ 0), ⟨[]⟩⟩
def o_107_807 (P : Params) : Obj := ⟨.none, none, (.fields ⟨([] : List Value)⟩), ⟨[]⟩⟩
def o_107_808 (P : Params) : Obj := ⟨(.type "tuple"), none, (.seq ⟨(([(.str "rules" 1262), (.str "a" 1263), (.str "found" 1264), (.str "coefficient" 1265), (.str "signals" 1266)] : List Value))⟩ 0), ⟨[]⟩⟩
def o_107_809 (P : Params) : Obj := ⟨(.type "tuple"), none, (.seq ⟨([] : List Value)⟩ 0), ⟨[]⟩⟩
def o_107_810 (P : Params) : Obj := ⟨.none, none, (.func ⟨"to_integral_exact", "to_integral_exact", defArgs (top 105), .stmts (defBody (top 105)), defScope (top 105), 0, [], .none, .none, .none, .none, none, .none, .none, 0⟩), ⟨[]⟩⟩
def o_107_811 (P : Params) : Obj := ⟨(.type "code"), none, (.fields ⟨(([(.str "to_integral_exact" 1259), (.str "to_integral_exact" 1260), (.str "/claim/cut.py" 1261), (.int (459) 0), (.int (2) 0), (.int (0) 0), (.int (0) 0), (.int (3) 0), (.ref 806), (.bool true), (.int (181) 0), (.ref 807)] : List Value) ++ ([.none, (.ref 808), (.ref 809), (.ref 810), (.int (1267) 0), (.int (459) 0), (.str "/claim/cut.py" 1268)] : List Value))⟩), ⟨[]⟩⟩
def o_107_812 (P : Params) : Obj := ⟨(.type "function"), none, (.func ⟨"to_integral_exact", "to_integral_exact", defArgs (top 105), .stmts (defBody (top 105)), defScope (top 105), 3, [], .none, .none, .none, (.str "tenwhole.places" 1219), none, (.ref 811), .none, 0⟩), ⟨[]⟩⟩
def o_107_813 (P : Params) : Obj := ⟨(.type "tuple"), none, (.seq ⟨([] : List Value)⟩ 0), ⟨[]⟩⟩
def o_107_814 (P : Params) : Obj := ⟨.none, none, (.fields ⟨([] : List Value)⟩), ⟨[]⟩⟩
def o_107_815 (P : Params) : Obj := ⟨(.type "tuple"), none, (.seq ⟨(([(.str "rules" 1273), (.str "a" 1274), (.str "found" 1275)] : List Value))⟩ 0), ⟨[]⟩⟩
def o_107_816 (P : Params) : Obj := ⟨(.type "tuple"), none, (.seq ⟨([] : List Value)⟩ 0), ⟨[]⟩⟩
def o_107_817 (P : Params) : Obj := ⟨.none, none, (.func ⟨"to_integral_value", "to_integral_value", defArgs (top 106), .stmts (defBody (top 106)), defScope (top 106), 0, [], .none, .none, .none, .none, none, .none, .none, 0⟩), ⟨[]⟩⟩
def o_107_818 (P : Params) : Obj := ⟨(.type "code"), none, (.fields ⟨(([(.str "to_integral_value" 1270), (.str "to_integral_value" 1271), (.str "/claim/cut.py" 1272), (.int (469) 0), (.int (2) 0), (.int (0) 0), (.int (0) 0), (.int (3) 0), (.ref 813), (.bool true), (.int (181) 0), (.ref 814)] : List Value) ++ ([.none, (.ref 815), (.ref 816), (.ref 817), (.int (1276) 0), (.int (469) 0), (.str "/claim/cut.py" 1277)] : List Value))⟩), ⟨[]⟩⟩
def o_107_819 (P : Params) : Obj := ⟨(.type "function"), none, (.func ⟨"to_integral_value", "to_integral_value", defArgs (top 106), .stmts (defBody (top 106)), defScope (top 106), 3, [], .none, .none, .none, (.str "tenwhole.places" 1219), none, (.ref 818), .none, 0⟩), ⟨[]⟩⟩
def l_107 (P : Params) : List (Nat × Obj) := ([(3, o_107_3 P), (12, o_107_12 P), (493, o_107_493 P), (494, o_107_494 P), (495, o_107_495 P), (496, o_107_496 P), (497, o_107_497 P), (498, o_107_498 P), (499, o_107_499 P), (500, o_107_500 P), (501, o_107_501 P), (502, o_107_502 P), (503, o_107_503 P), (504, o_107_504 P), (505, o_107_505 P), (506, o_107_506 P), (507, o_107_507 P), (508, o_107_508 P), (509, o_107_509 P), (510, o_107_510 P), (511, o_107_511 P), (512, o_107_512 P), (513, o_107_513 P), (514, o_107_514 P), (515, o_107_515 P)] : List (Nat × Obj)) ++ ([(516, o_107_516 P), (517, o_107_517 P), (518, o_107_518 P), (519, o_107_519 P), (520, o_107_520 P), (521, o_107_521 P), (522, o_107_522 P), (523, o_107_523 P), (524, o_107_524 P), (525, o_107_525 P), (526, o_107_526 P), (527, o_107_527 P), (528, o_107_528 P), (529, o_107_529 P), (530, o_107_530 P), (531, o_107_531 P), (532, o_107_532 P), (533, o_107_533 P), (534, o_107_534 P), (535, o_107_535 P), (536, o_107_536 P), (537, o_107_537 P), (538, o_107_538 P), (539, o_107_539 P), (540, o_107_540 P)] : List (Nat × Obj)) ++ ([(541, o_107_541 P), (542, o_107_542 P), (543, o_107_543 P), (544, o_107_544 P), (545, o_107_545 P), (546, o_107_546 P), (547, o_107_547 P), (548, o_107_548 P), (549, o_107_549 P), (550, o_107_550 P), (551, o_107_551 P), (552, o_107_552 P), (553, o_107_553 P), (554, o_107_554 P), (555, o_107_555 P), (556, o_107_556 P), (557, o_107_557 P), (558, o_107_558 P), (559, o_107_559 P), (560, o_107_560 P), (561, o_107_561 P), (562, o_107_562 P), (563, o_107_563 P), (564, o_107_564 P), (565, o_107_565 P)] : List (Nat × Obj)) ++ ([(566, o_107_566 P), (567, o_107_567 P), (568, o_107_568 P), (569, o_107_569 P), (570, o_107_570 P), (571, o_107_571 P), (572, o_107_572 P), (573, o_107_573 P), (574, o_107_574 P), (575, o_107_575 P), (576, o_107_576 P), (577, o_107_577 P), (578, o_107_578 P), (579, o_107_579 P), (580, o_107_580 P), (581, o_107_581 P), (582, o_107_582 P), (583, o_107_583 P), (584, o_107_584 P), (585, o_107_585 P), (586, o_107_586 P), (587, o_107_587 P), (588, o_107_588 P), (589, o_107_589 P), (590, o_107_590 P)] : List (Nat × Obj)) ++ ([(591, o_107_591 P), (592, o_107_592 P), (593, o_107_593 P), (594, o_107_594 P), (595, o_107_595 P), (596, o_107_596 P), (597, o_107_597 P), (598, o_107_598 P), (599, o_107_599 P), (600, o_107_600 P), (601, o_107_601 P), (602, o_107_602 P), (603, o_107_603 P), (604, o_107_604 P), (605, o_107_605 P), (606, o_107_606 P), (607, o_107_607 P), (608, o_107_608 P), (609, o_107_609 P), (610, o_107_610 P), (611, o_107_611 P), (612, o_107_612 P), (613, o_107_613 P), (614, o_107_614 P), (615, o_107_615 P)] : List (Nat × Obj)) ++ ([(616, o_107_616 P), (617, o_107_617 P), (618, o_107_618 P), (619, o_107_619 P), (620, o_107_620 P), (621, o_107_621 P), (622, o_107_622 P), (623, o_107_623 P), (624, o_107_624 P), (625, o_107_625 P), (626, o_107_626 P), (627, o_107_627 P), (628, o_107_628 P), (629, o_107_629 P), (630, o_107_630 P), (631, o_107_631 P), (632, o_107_632 P), (633, o_107_633 P), (634, o_107_634 P), (635, o_107_635 P), (636, o_107_636 P), (637, o_107_637 P), (638, o_107_638 P), (639, o_107_639 P), (640, o_107_640 P)] : List (Nat × Obj)) ++ ([(641, o_107_641 P), (642, o_107_642 P), (643, o_107_643 P), (644, o_107_644 P), (645, o_107_645 P), (646, o_107_646 P), (647, o_107_647 P), (648, o_107_648 P), (649, o_107_649 P), (650, o_107_650 P), (651, o_107_651 P), (652, o_107_652 P), (653, o_107_653 P), (654, o_107_654 P), (655, o_107_655 P), (656, o_107_656 P), (657, o_107_657 P), (658, o_107_658 P), (659, o_107_659 P), (660, o_107_660 P), (661, o_107_661 P), (662, o_107_662 P), (663, o_107_663 P), (664, o_107_664 P), (665, o_107_665 P)] : List (Nat × Obj)) ++ ([(666, o_107_666 P), (667, o_107_667 P), (668, o_107_668 P), (669, o_107_669 P), (670, o_107_670 P), (671, o_107_671 P), (672, o_107_672 P), (673, o_107_673 P), (674, o_107_674 P), (675, o_107_675 P), (676, o_107_676 P), (677, o_107_677 P), (678, o_107_678 P), (679, o_107_679 P), (680, o_107_680 P), (681, o_107_681 P), (682, o_107_682 P), (683, o_107_683 P), (684, o_107_684 P), (685, o_107_685 P), (686, o_107_686 P), (687, o_107_687 P), (688, o_107_688 P), (689, o_107_689 P), (690, o_107_690 P)] : List (Nat × Obj)) ++ ([(691, o_107_691 P), (692, o_107_692 P), (693, o_107_693 P), (694, o_107_694 P), (695, o_107_695 P), (696, o_107_696 P), (697, o_107_697 P), (698, o_107_698 P), (699, o_107_699 P), (700, o_107_700 P), (701, o_107_701 P), (702, o_107_702 P), (703, o_107_703 P), (704, o_107_704 P), (705, o_107_705 P), (706, o_107_706 P), (707, o_107_707 P), (708, o_107_708 P), (709, o_107_709 P), (710, o_107_710 P), (711, o_107_711 P), (712, o_107_712 P), (713, o_107_713 P), (714, o_107_714 P), (715, o_107_715 P)] : List (Nat × Obj)) ++ ([(716, o_107_716 P), (717, o_107_717 P), (718, o_107_718 P), (719, o_107_719 P), (720, o_107_720 P), (721, o_107_721 P), (722, o_107_722 P), (723, o_107_723 P), (724, o_107_724 P), (725, o_107_725 P), (726, o_107_726 P), (727, o_107_727 P), (728, o_107_728 P), (729, o_107_729 P), (730, o_107_730 P), (731, o_107_731 P), (732, o_107_732 P), (733, o_107_733 P), (734, o_107_734 P), (735, o_107_735 P), (736, o_107_736 P), (737, o_107_737 P), (738, o_107_738 P), (739, o_107_739 P), (740, o_107_740 P)] : List (Nat × Obj)) ++ ([(741, o_107_741 P), (742, o_107_742 P), (743, o_107_743 P), (744, o_107_744 P), (745, o_107_745 P), (746, o_107_746 P), (747, o_107_747 P), (748, o_107_748 P), (749, o_107_749 P), (750, o_107_750 P), (751, o_107_751 P), (752, o_107_752 P), (753, o_107_753 P), (754, o_107_754 P), (755, o_107_755 P), (756, o_107_756 P), (757, o_107_757 P), (758, o_107_758 P), (759, o_107_759 P), (760, o_107_760 P), (761, o_107_761 P), (762, o_107_762 P), (763, o_107_763 P), (764, o_107_764 P), (765, o_107_765 P)] : List (Nat × Obj)) ++ ([(766, o_107_766 P), (767, o_107_767 P), (768, o_107_768 P), (769, o_107_769 P), (770, o_107_770 P), (771, o_107_771 P), (772, o_107_772 P), (773, o_107_773 P), (774, o_107_774 P), (775, o_107_775 P), (776, o_107_776 P), (777, o_107_777 P), (778, o_107_778 P), (779, o_107_779 P), (780, o_107_780 P), (781, o_107_781 P), (782, o_107_782 P), (783, o_107_783 P), (784, o_107_784 P), (785, o_107_785 P), (786, o_107_786 P), (787, o_107_787 P), (788, o_107_788 P), (789, o_107_789 P), (790, o_107_790 P)] : List (Nat × Obj)) ++ ([(791, o_107_791 P), (792, o_107_792 P), (793, o_107_793 P), (794, o_107_794 P), (795, o_107_795 P), (796, o_107_796 P), (797, o_107_797 P), (798, o_107_798 P), (799, o_107_799 P), (800, o_107_800 P), (801, o_107_801 P), (802, o_107_802 P), (803, o_107_803 P), (804, o_107_804 P), (805, o_107_805 P), (806, o_107_806 P), (807, o_107_807 P), (808, o_107_808 P), (809, o_107_809 P), (810, o_107_810 P), (811, o_107_811 P), (812, o_107_812 P), (813, o_107_813 P), (814, o_107_814 P), (815, o_107_815 P)] : List (Nat × Obj)) ++ ([(816, o_107_816 P), (817, o_107_817 P), (818, o_107_818 P), (819, o_107_819 P)] : List (Nat × Obj))
def t_107 (P : Params) : BT := (insAll (l_107 P) (t_53 P)).getD .nil
def S_107 (w : World) (os : OsState) : SharedT := ⟨t_107 w.params, 820, {}, #[], ⟨0, 0, 0, 0⟩, 1279, os⟩
def o_161_3 (P : Params) : Obj := ⟨(.type "dict"), none, (.dict ⟨(([⟨PyData.keyHash P "__name__", (.str "__name__" 165), (.str "tenwhole.quotients" 1703)⟩, ⟨PyData.keyHash P "__doc__", (.str "__doc__" 166), .none⟩, ⟨PyData.keyHash P "__package__", (.str "__package__" 167), .none⟩, ⟨PyData.keyHash P "__loader__", (.str "__loader__" 168), (.builtin "__main__.__loader__#opaque")⟩, ⟨PyData.keyHash P "__spec__", (.str "__spec__" 169), .none⟩, ⟨PyData.keyHash P "__annotations__", (.str "__annotations__" 170), (.ref 6)⟩, ⟨PyData.keyHash P "__builtins__", (.str "__builtins__" 171), (.ref 4)⟩, ⟨PyData.keyHash P "__file__", (.str "__file__" 173), (.str "/claim/cut.py" 172)⟩, ⟨PyData.keyHash P "__cached__", (.str "__cached__" 174), .none⟩, ⟨PyData.keyHash P "_wall", (.str "_wall" 193), (.ref 21)⟩, ⟨PyData.keyHash P "ORDER", (.str "ORDER" 204), (.ref 22)⟩, ⟨PyData.keyHash P "INVALID", (.str "INVALID" 209), (.ref 23)⟩] : List DictEntry) ++ ([⟨PyData.keyHash P "TenSignal", (.str "TenSignal" 238), (.ref 40)⟩, ⟨PyData.keyHash P "Clamped", (.str "Clamped" 254), (.ref 53)⟩, ⟨PyData.keyHash P "DivisionByZero", (.str "DivisionByZero" 270), (.ref 65)⟩, ⟨PyData.keyHash P "Inexact", (.str "Inexact" 286), (.ref 77)⟩, ⟨PyData.keyHash P "InvalidOperation", (.str "InvalidOperation" 302), (.ref 89)⟩, ⟨PyData.keyHash P "Overflow", (.str "Overflow" 318), (.ref 101)⟩, ⟨PyData.keyHash P "Rounded", (.str "Rounded" 334), (.ref 113)⟩, ⟨PyData.keyHash P "Subnormal", (.str "Subnormal" 350), (.ref 125)⟩, ⟨PyData.keyHash P "Underflow", (.str "Underflow" 366), (.ref 137)⟩, ⟨PyData.keyHash P "TenError", (.str "TenError" 384), (.ref 149)⟩, ⟨PyData.keyHash P "NoOperand", (.str "NoOperand" 409), (.ref 169)⟩, ⟨PyData.keyHash P "NoDecimal", (.str "NoDecimal" 434), (.ref 188)⟩] : List DictEntry) ++ ([⟨PyData.keyHash P "NoContext", (.str "NoContext" 459), (.ref 207)⟩, ⟨PyData.keyHash P "NoName", (.str "NoName" 484), (.ref 226)⟩, ⟨PyData.keyHash P "raise_signal", (.str "raise_signal" 492), (.ref 235)⟩, ⟨PyData.keyHash P "signal_of", (.str "signal_of" 499), (.ref 242)⟩, ⟨PyData.keyHash P "STEP", (.str "STEP" 503), (.int (64) 502)⟩, ⟨PyData.keyHash P "GREAT_decimals", (.str "GREAT_decimals" 507), (.int (10000000000000000000000000000000000000000000000000000000000000000) 506)⟩, ⟨PyData.keyHash P "INFINITY", (.str "INFINITY" 509), (.str "F" 508)⟩, ⟨PyData.keyHash P "QUIET", (.str "QUIET" 511), (.str "n" 510)⟩, ⟨PyData.keyHash P "SIGNALING", (.str "SIGNALING" 513), (.str "N" 512)⟩, ⟨PyData.keyHash P "Decimal", (.str "Decimal" 569), (.ref 280)⟩, ⟨PyData.keyHash P "is_integer", (.str "is_integer" 576), (.ref 291)⟩, ⟨PyData.keyHash P "is_exponent", (.str "is_exponent" 583), (.ref 298)⟩] : List DictEntry) ++ ([⟨PyData.keyHash P "is_finite", (.str "is_finite" 590), (.ref 305)⟩, ⟨PyData.keyHash P "is_infinite", (.str "is_infinite" 597), (.ref 312)⟩, ⟨PyData.keyHash P "is_nan", (.str "is_nan" 604), (.ref 319)⟩, ⟨PyData.keyHash P "is_signaling", (.str "is_signaling" 611), (.ref 326)⟩, ⟨PyData.keyHash P "is_zero", (.str "is_zero" 618), (.ref 333)⟩, ⟨PyData.keyHash P "decimal_of", (.str "decimal_of" 625), (.ref 340)⟩, ⟨PyData.keyHash P "infinity", (.str "infinity" 632), (.ref 347)⟩, ⟨PyData.keyHash P "plain_nan", (.str "plain_nan" 638), (.ref 354)⟩, ⟨PyData.keyHash P "tens", (.str "tens" 647), (.ref 361)⟩, ⟨PyData.keyHash P "count_digits", (.str "count_digits" 655), (.ref 368)⟩, ⟨PyData.keyHash P "digits_of", (.str "digits_of" 661), (.ref 373)⟩, ⟨PyData.keyHash P "order_of", (.str "order_of" 671), (.ref 380)⟩] : List DictEntry) ++ ([⟨PyData.keyHash P "side_of", (.str "side_of" 679), (.ref 387)⟩, ⟨PyData.keyHash P "size_order", (.str "size_order" 690), (.ref 394)⟩, ⟨PyData.keyHash P "Rules", (.str "Rules" 751), (.ref 432)⟩, ⟨PyData.keyHash P "goes_up", (.str "goes_up" 761), (.ref 443)⟩, ⟨PyData.keyHash P "rounded_parts", (.str "rounded_parts" 776), (.ref 450)⟩, ⟨PyData.keyHash P "overflow", (.str "overflow" 786), (.ref 457)⟩, ⟨PyData.keyHash P "finish_zero", (.str "finish_zero" 797), (.ref 464)⟩, ⟨PyData.keyHash P "finish_cut", (.str "finish_cut" 812), (.ref 471)⟩, ⟨PyData.keyHash P "finish_parts", (.str "finish_parts" 826), (.ref 478)⟩, ⟨PyData.keyHash P "finish_endless", (.str "finish_endless" 836), (.ref 485)⟩, ⟨PyData.keyHash P "kept_digits", (.str "kept_digits" 845), (.ref 492)⟩, ⟨PyData.keyHash P "finish", (.str "finish" 853), (.ref 499)⟩] : List DictEntry) ++ ([⟨PyData.keyHash P "nan_of", (.str "nan_of" 859), (.ref 504)⟩, ⟨PyData.keyHash P "invalid", (.str "invalid" 866), (.ref 511)⟩, ⟨PyData.keyHash P "sign_of_both", (.str "sign_of_both" 874), (.ref 518)⟩, ⟨PyData.keyHash P "INVALID_WORD", (.str "INVALID_WORD" 878), (.str "InvalidOperation" 877)⟩, ⟨PyData.keyHash P "as_decimal", (.str "as_decimal" 885), (.ref 525)⟩, ⟨PyData.keyHash P "unsigned", (.str "unsigned" 892), (.ref 532)⟩, ⟨PyData.keyHash P "sided", (.str "sided" 900), (.ref 539)⟩, ⟨PyData.keyHash P "compare", (.str "compare" 910), (.ref 546)⟩, ⟨PyData.keyHash P "compare_signal", (.str "compare_signal" 920), (.ref 553)⟩, ⟨PyData.keyHash P "rank", (.str "rank" 927), (.ref 560)⟩, ⟨PyData.keyHash P "total_size", (.str "total_size" 936), (.ref 567)⟩, ⟨PyData.keyHash P "total_order", (.str "total_order" 944), (.ref 574)⟩] : List DictEntry) ++ ([⟨PyData.keyHash P "compare_total", (.str "compare_total" 953), (.ref 581)⟩, ⟨PyData.keyHash P "compare_total_mag", (.str "compare_total_mag" 962), (.ref 588)⟩, ⟨PyData.keyHash P "equal", (.str "equal" 971), (.ref 595)⟩, ⟨PyData.keyHash P "less", (.str "less" 980), (.ref 602)⟩, ⟨PyData.keyHash P "at_most", (.str "at_most" 989), (.ref 609)⟩, ⟨PyData.keyHash P "is_quiet", (.str "is_quiet" 996), (.ref 616)⟩, ⟨PyData.keyHash P "picked", (.str "picked" 1009), (.ref 623)⟩, ⟨PyData.keyHash P "size_by", (.str "size_by" 1017), (.ref 630)⟩, ⟨PyData.keyHash P "greater_of", (.str "greater_of" 1026), (.ref 637)⟩, ⟨PyData.keyHash P "lesser_of", (.str "lesser_of" 1035), (.ref 644)⟩, ⟨PyData.keyHash P "greater_mag", (.str "greater_mag" 1044), (.ref 651)⟩, ⟨PyData.keyHash P "lesser_mag", (.str "lesser_mag" 1053), (.ref 658)⟩] : List DictEntry) ++ ([⟨PyData.keyHash P "is_low", (.str "is_low" 1061), (.ref 665)⟩, ⟨PyData.keyHash P "is_subnormal", (.str "is_subnormal" 1069), (.ref 672)⟩, ⟨PyData.keyHash P "is_normal", (.str "is_normal" 1077), (.ref 679)⟩, ⟨PyData.keyHash P "number_class", (.str "number_class" 1086), (.ref 686)⟩, ⟨PyData.keyHash P "with_sign", (.str "with_sign" 1096), (.ref 693)⟩, ⟨PyData.keyHash P "with_sign_copies", (.str "with_sign_copies" 1097), (.ref 693)⟩, ⟨PyData.keyHash P "answer_to", (.str "answer_to" 1105), (.ref 700)⟩, ⟨PyData.keyHash P "copy_of", (.str "copy_of" 1113), (.ref 707)⟩, ⟨PyData.keyHash P "greatest", (.str "greatest" 1123), (.ref 714)⟩, ⟨PyData.keyHash P "stepped", (.str "stepped" 1134), (.ref 721)⟩, ⟨PyData.keyHash P "neighbour", (.str "neighbour" 1146), (.ref 728)⟩, ⟨PyData.keyHash P "next_plus", (.str "next_plus" 1155), (.ref 735)⟩] : List DictEntry) ++ ([⟨PyData.keyHash P "next_minus", (.str "next_minus" 1164), (.ref 742)⟩, ⟨PyData.keyHash P "moved_by", (.str "moved_by" 1172), (.ref 749)⟩, ⟨PyData.keyHash P "next_toward", (.str "next_toward" 1184), (.ref 756)⟩, ⟨PyData.keyHash P "logb", (.str "logb" 1193), (.ref 763)⟩, ⟨PyData.keyHash P "is_step", (.str "is_step" 1201), (.ref 770)⟩, ⟨PyData.keyHash P "signed", (.str "signed" 1208), (.ref 777)⟩, ⟨PyData.keyHash P "scaleb", (.str "scaleb" 1218), (.ref 784)⟩, ⟨PyData.keyHash P "PLAIN_places", (.str "PLAIN_places" 1222), (.str "InvalidOperation" 1221)⟩, ⟨PyData.keyHash P "placed", (.str "placed" 1234), (.ref 791)⟩, ⟨PyData.keyHash P "quantize", (.str "quantize" 1249), (.ref 798)⟩, ⟨PyData.keyHash P "same_quantum", (.str "same_quantum" 1258), (.ref 805)⟩, ⟨PyData.keyHash P "to_integral_exact", (.str "to_integral_exact" 1269), (.ref 812)⟩] : List DictEntry) ++ ([⟨PyData.keyHash P "to_integral_value", (.str "to_integral_value" 1278), (.ref 819)⟩, ⟨PyData.keyHash P "normalize", (.str "normalize" 1292), (.ref 826)⟩, ⟨PyData.keyHash P "GUARD", (.str "GUARD" 1296), (.int (12) 1295)⟩, ⟨PyData.keyHash P "DEEP", (.str "DEEP" 1298), (.int (24) 1297)⟩, ⟨PyData.keyHash P "GREAT_roots", (.str "GREAT_roots" 1300), (.int (19) 1299)⟩, ⟨PyData.keyHash P "unity", (.str "unity" 1306), (.ref 833)⟩, ⟨PyData.keyHash P "root_floor", (.str "root_floor" 1315), (.ref 840)⟩, ⟨PyData.keyHash P "sqrt", (.str "sqrt" 1330), (.ref 847)⟩, ⟨PyData.keyHash P "odd_sum", (.str "odd_sum" 1341), (.ref 854)⟩, ⟨PyData.keyHash P "ten_log", (.str "ten_log" 1349), (.ref 861)⟩, ⟨PyData.keyHash P "log_bounds", (.str "log_bounds" 1370), (.ref 868)⟩, ⟨PyData.keyHash P "exp_sum", (.str "exp_sum" 1382), (.ref 875)⟩] : List DictEntry) ++ ([⟨PyData.keyHash P "exp_bounds", (.str "exp_bounds" 1398), (.ref 882)⟩, ⟨PyData.keyHash P "told_digits", (.str "told_digits" 1410), (.ref 889)⟩, ⟨PyData.keyHash P "far_told", (.str "far_told" 1419), (.ref 896)⟩, ⟨PyData.keyHash P "near_one", (.str "near_one" 1428), (.ref 903)⟩, ⟨PyData.keyHash P "floor_scaled", (.str "floor_scaled" 1438), (.ref 910)⟩, ⟨PyData.keyHash P "exp", (.str "exp" 1451), (.ref 917)⟩, ⟨PyData.keyHash P "log_size", (.str "log_size" 1459), (.ref 924)⟩, ⟨PyData.keyHash P "turned_bounds", (.str "turned_bounds" 1467), (.ref 931)⟩, ⟨PyData.keyHash P "log_special", (.str "log_special" 1476), (.ref 938)⟩, ⟨PyData.keyHash P "ln", (.str "ln" 1490), (.ref 945)⟩, ⟨PyData.keyHash P "log10", (.str "log10" 1508), (.ref 952)⟩, ⟨PyData.keyHash P "MOST_DEGREE", (.str "MOST_DEGREE" 1512), (.int (400) 1511)⟩] : List DictEntry) ++ ([⟨PyData.keyHash P "is_whole", (.str "is_whole" 1519), (.ref 959)⟩, ⟨PyData.keyHash P "whole_of", (.str "whole_of" 1526), (.ref 966)⟩, ⟨PyData.keyHash P "is_odd", (.str "is_odd" 1533), (.ref 973)⟩, ⟨PyData.keyHash P "raised", (.str "raised" 1542), (.ref 980)⟩, ⟨PyData.keyHash P "common", (.str "common" 1550), (.ref 987)⟩, ⟨PyData.keyHash P "split_by", (.str "split_by" 1559), (.ref 994)⟩, ⟨PyData.keyHash P "exact_root", (.str "exact_root" 1570), (.ref 1001)⟩, ⟨PyData.keyHash P "ratio_of", (.str "ratio_of" 1580), (.ref 1008)⟩, ⟨PyData.keyHash P "exact_parts", (.str "exact_parts" 1598), (.ref 1015)⟩, ⟨PyData.keyHash P "exact_told", (.str "exact_told" 1614), (.ref 1022)⟩, ⟨PyData.keyHash P "bounds_times", (.str "bounds_times" 1624), (.ref 1029)⟩, ⟨PyData.keyHash P "power_finite", (.str "power_finite" 1642), (.ref 1036)⟩] : List DictEntry) ++ ([⟨PyData.keyHash P "power_of_one", (.str "power_of_one" 1654), (.ref 1043)⟩, ⟨PyData.keyHash P "power_of_ends", (.str "power_of_ends" 1664), (.ref 1050)⟩, ⟨PyData.keyHash P "power", (.str "power" 1677), (.ref 1057)⟩, ⟨PyData.keyHash P "modulo_power", (.str "modulo_power" 1687), (.ref 1064)⟩, ⟨PyData.keyHash P "power_modulo", (.str "power_modulo" 1702), (.ref 1071)⟩, ⟨PyData.keyHash P "PLAIN_quotients", (.str "PLAIN_quotients" 1706), (.str "InvalidOperation" 1705)⟩, ⟨PyData.keyHash P "UNDEFINED", (.str "UNDEFINED" 1708), (.str "DivisionUndefined" 1707)⟩, ⟨PyData.keyHash P "IMPOSSIBLE", (.str "IMPOSSIBLE" 1710), (.str "DivisionImpossible" 1709)⟩, ⟨PyData.keyHash P "BY_ZERO", (.str "BY_ZERO" 1712), (.str "DivisionByZero" 1711)⟩, ⟨PyData.keyHash P "shared_divisor", (.str "shared_divisor" 1720), (.ref 1078)⟩, ⟨PyData.keyHash P "without_factor", (.str "without_factor" 1729), (.ref 1085)⟩, ⟨PyData.keyHash P "exact_quotient", (.str "exact_quotient" 1742), (.ref 1092)⟩] : List DictEntry) ++ ([⟨PyData.keyHash P "first_digits", (.str "first_digits" 1754), (.ref 1099)⟩, ⟨PyData.keyHash P "quotient_of", (.str "quotient_of" 1767), (.ref 1106)⟩, ⟨PyData.keyHash P "by_zero", (.str "by_zero" 1775), (.ref 1113)⟩, ⟨PyData.keyHash P "divide", (.str "divide" 1786), (.ref 1120)⟩] : List DictEntry))⟩ 160), ⟨[]⟩⟩
def o_161_12 (P : Params) : Obj := ⟨.none, none, (.fields ⟨(([(.int (1) 0), (.int (0) 0), (.ref 20), (.int (7) 0), (.int (0) 0), (.ref 29), (.int (12) 0), (.int (0) 0), (.ref 49), (.int (14) 0), (.int (0) 0), (.ref 61)] : List Value) ++ ([(.int (16) 0), (.int (0) 0), (.ref 73), (.int (18) 0), (.int (0) 0), (.ref 85), (.int (20) 0), (.int (0) 0), (.ref 97), (.int (22) 0), (.int (0) 0), (.ref 109)] : List Value) ++ ([(.int (24) 0), (.int (0) 0), (.ref 121), (.int (26) 0), (.int (0) 0), (.ref 133), (.int (28) 0), (.int (0) 0), (.ref 145), (.int (30) 0), (.int (0) 0), (.ref 158)] : List Value) ++ ([(.int (35) 0), (.int (0) 0), (.ref 177), (.int (40) 0), (.int (0) 0), (.ref 196), (.int (45) 0), (.int (0) 0), (.ref 215), (.int (50) 0), (.int (0) 0), (.ref 234)] : List Value) ++ ([(.int (66) 0), (.int (0) 0), (.ref 241), (.int (74) 0), (.int (0) 0), (.ref 248), (.int (101) 0), (.int (0) 0), (.ref 290), (.int (103) 0), (.int (0) 0), (.ref 297)] : List Value) ++ ([(.int (105) 0), (.int (0) 0), (.ref 304), (.int (107) 0), (.int (0) 0), (.ref 311), (.int (109) 0), (.int (0) 0), (.ref 318), (.int (111) 0), (.int (0) 0), (.ref 325)] : List Value) ++ ([(.int (113) 0), (.int (0) 0), (.ref 332), (.int (115) 0), (.int (0) 0), (.ref 339), (.int (121) 0), (.int (0) 0), (.ref 346), (.int (123) 0), (.int (0) 0), (.ref 353)] : List Value) ++ ([(.int (125) 0), (.int (0) 0), (.ref 360), (.int (132) 0), (.int (0) 0), (.ref 367), (.int (138) 0), (.int (0) 0), (.ref 372), (.int (145) 0), (.int (0) 0), (.ref 379)] : List Value) ++ ([(.int (154) 0), (.int (0) 0), (.ref 386), (.int (157) 0), (.int (0) 0), (.ref 393), (.int (165) 0), (.int (0) 0), (.ref 400), (.int (182) 0), (.int (0) 0), (.ref 442)] : List Value) ++ ([(.int (188) 0), (.int (0) 0), (.ref 449), (.int (198) 0), (.int (0) 0), (.ref 456), (.int (204) 0), (.int (0) 0), (.ref 463), (.int (208) 0), (.int (0) 0), (.ref 470)] : List Value) ++ ([(.int (219) 0), (.int (0) 0), (.ref 477), (.int (233) 0), (.int (0) 0), (.ref 484), (.int (235) 0), (.int (0) 0), (.ref 491), (.int (238) 0), (.int (0) 0), (.ref 498)] : List Value) ++ ([(.int (244) 0), (.int (0) 0), (.ref 503), (.int (252) 0), (.int (0) 0), (.ref 510), (.int (254) 0), (.int (0) 0), (.ref 517), (.int (258) 0), (.int (0) 0), (.ref 524)] : List Value) ++ ([(.int (260) 0), (.int (0) 0), (.ref 531), (.int (262) 0), (.int (0) 0), (.ref 538), (.int (264) 0), (.int (0) 0), (.ref 545), (.int (267) 0), (.int (0) 0), (.ref 552)] : List Value) ++ ([(.int (272) 0), (.int (0) 0), (.ref 559), (.int (276) 0), (.int (0) 0), (.ref 566), (.int (285) 0), (.int (0) 0), (.ref 573), (.int (289) 0), (.int (0) 0), (.ref 580)] : List Value) ++ ([(.int (291) 0), (.int (0) 0), (.ref 587), (.int (293) 0), (.int (0) 0), (.ref 594), (.int (297) 0), (.int (0) 0), (.ref 601), (.int (301) 0), (.int (0) 0), (.ref 608)] : List Value) ++ ([(.int (305) 0), (.int (0) 0), (.ref 615), (.int (307) 0), (.int (0) 0), (.ref 622), (.int (319) 0), (.int (0) 0), (.ref 629), (.int (321) 0), (.int (0) 0), (.ref 636)] : List Value) ++ ([(.int (323) 0), (.int (0) 0), (.ref 643), (.int (325) 0), (.int (0) 0), (.ref 650), (.int (327) 0), (.int (0) 0), (.ref 657), (.int (329) 0), (.int (0) 0), (.ref 664)] : List Value) ++ ([(.int (331) 0), (.int (0) 0), (.ref 671), (.int (333) 0), (.int (0) 0), (.ref 678), (.int (335) 0), (.int (0) 0), (.ref 685), (.int (346) 0), (.int (0) 0), (.ref 692)] : List Value) ++ ([(.int (349) 0), (.int (0) 0), (.ref 699), (.int (363) 0), (.int (0) 0), (.ref 706), (.int (368) 0), (.int (0) 0), (.ref 713), (.int (370) 0), (.int (0) 0), (.ref 720)] : List Value) ++ ([(.int (380) 0), (.int (0) 0), (.ref 727), (.int (386) 0), (.int (0) 0), (.ref 734), (.int (389) 0), (.int (0) 0), (.ref 741), (.int (392) 0), (.int (0) 0), (.ref 748)] : List Value) ++ ([(.int (398) 0), (.int (0) 0), (.ref 755), (.int (407) 0), (.int (0) 0), (.ref 762), (.int (416) 0), (.int (0) 0), (.ref 769), (.int (418) 0), (.int (0) 0), (.ref 776)] : List Value) ++ ([(.int (420) 0), (.int (0) 0), (.ref 783), (.int (431) 0), (.int (0) 0), (.ref 790), (.int (437) 0), (.int (0) 0), (.ref 797), (.int (455) 0), (.int (0) 0), (.ref 804)] : List Value) ++ ([(.int (459) 0), (.int (0) 0), (.ref 811), (.int (469) 0), (.int (0) 0), (.ref 818), (.int (472) 0), (.int (0) 0), (.ref 825), (.int (490) 0), (.int (0) 0), (.ref 832)] : List Value) ++ ([(.int (492) 0), (.int (0) 0), (.ref 839), (.int (499) 0), (.int (0) 0), (.ref 846), (.int (517) 0), (.int (0) 0), (.ref 853), (.int (523) 0), (.int (0) 0), (.ref 860)] : List Value) ++ ([(.int (526) 0), (.int (0) 0), (.ref 867), (.int (540) 0), (.int (0) 0), (.ref 874), (.int (547) 0), (.int (0) 0), (.ref 881), (.int (555) 0), (.int (0) 0), (.ref 888)] : List Value) ++ ([(.int (561) 0), (.int (0) 0), (.ref 895), (.int (565) 0), (.int (0) 0), (.ref 902), (.int (569) 0), (.int (0) 0), (.ref 909), (.int (572) 0), (.int (0) 0), (.ref 916)] : List Value) ++ ([(.int (592) 0), (.int (0) 0), (.ref 923), (.int (597) 0), (.int (0) 0), (.ref 930), (.int (599) 0), (.int (0) 0), (.ref 937), (.int (608) 0), (.int (0) 0), (.ref 944)] : List Value) ++ ([(.int (622) 0), (.int (0) 0), (.ref 951), (.int (640) 0), (.int (0) 0), (.ref 958), (.int (646) 0), (.int (0) 0), (.ref 965), (.int (650) 0), (.int (0) 0), (.ref 972)] : List Value) ++ ([(.int (652) 0), (.int (0) 0), (.ref 979), (.int (659) 0), (.int (0) 0), (.ref 986), (.int (663) 0), (.int (0) 0), (.ref 993), (.int (668) 0), (.int (0) 0), (.ref 1000)] : List Value) ++ ([(.int (681) 0), (.int (0) 0), (.ref 1007), (.int (685) 0), (.int (0) 0), (.ref 1014), (.int (700) 0), (.int (0) 0), (.ref 1021), (.int (710) 0), (.int (0) 0), (.ref 1028)] : List Value) ++ ([(.int (718) 0), (.int (0) 0), (.ref 1035), (.int (735) 0), (.int (0) 0), (.ref 1042), (.int (745) 0), (.int (0) 0), (.ref 1049), (.int (748) 0), (.int (0) 0), (.ref 1056)] : List Value) ++ ([(.int (766) 0), (.int (0) 0), (.ref 1063), (.int (774) 0), (.int (0) 0), (.ref 1070), (.int (799) 0), (.int (0) 0), (.ref 1077), (.int (803) 0), (.int (0) 0), (.ref 1084)] : List Value) ++ ([(.int (809) 0), (.int (0) 0), (.ref 1091), (.int (817) 0), (.int (0) 0), (.ref 1098), (.int (821) 0), (.int (0) 0), (.ref 1105), (.int (828) 0), (.int (0) 0), (.ref 1112)] : List Value) ++ ([(.int (830) 0), (.int (0) 0), (.ref 1119)] : List Value))⟩), ⟨[]⟩⟩
def o_161_820 (P : Params) : Obj := ⟨(.type "tuple"), none, (.seq ⟨([] : List Value)⟩ 0), ⟨[]⟩⟩
def o_161_821 (P : Params) : Obj := ⟨.none, none, (.fields ⟨([] : List Value)⟩), ⟨[]⟩⟩
def o_161_822 (P : Params) : Obj := ⟨(.type "tuple"), none, (.seq ⟨(([(.str "rules" 1282), (.str "a" 1283), (.str "found" 1284), (.str "result" 1285), (.str "signals" 1286), (.str "coefficient" 1287), (.str "exponent" 1288), (.str "most" 1289)] : List Value))⟩ 0), ⟨[]⟩⟩
def o_161_823 (P : Params) : Obj := ⟨(.type "tuple"), none, (.seq ⟨([] : List Value)⟩ 0), ⟨[]⟩⟩
def o_161_824 (P : Params) : Obj := ⟨.none, none, (.func ⟨"normalize", "normalize", defArgs (top 107), .stmts (defBody (top 107)), defScope (top 107), 0, [], .none, .none, .none, .none, none, .none, .none, 0⟩), ⟨[]⟩⟩
def o_161_825 (P : Params) : Obj := ⟨(.type "code"), none, (.fields ⟨(([(.str "normalize" 1279), (.str "normalize" 1280), (.str "/claim/cut.py" 1281), (.int (472) 0), (.int (2) 0), (.int (0) 0), (.int (0) 0), (.int (3) 0), (.ref 820), (.bool true), (.int (181) 0), (.ref 821)] : List Value) ++ ([.none, (.ref 822), (.ref 823), (.ref 824), (.int (1290) 0), (.int (472) 0), (.str "/claim/cut.py" 1291)] : List Value))⟩), ⟨[]⟩⟩
def o_161_826 (P : Params) : Obj := ⟨(.type "function"), none, (.func ⟨"normalize", "normalize", defArgs (top 107), .stmts (defBody (top 107)), defScope (top 107), 3, [], .none, .none, .none, (.str "tenwhole.places" 1219), none, (.ref 825), .none, 0⟩), ⟨[]⟩⟩
def o_161_827 (P : Params) : Obj := ⟨(.type "tuple"), none, (.seq ⟨([] : List Value)⟩ 0), ⟨[]⟩⟩
def o_161_828 (P : Params) : Obj := ⟨.none, none, (.fields ⟨([] : List Value)⟩), ⟨[]⟩⟩
def o_161_829 (P : Params) : Obj := ⟨(.type "tuple"), none, (.seq ⟨([] : List Value)⟩ 0), ⟨[]⟩⟩
def o_161_830 (P : Params) : Obj := ⟨(.type "tuple"), none, (.seq ⟨([] : List Value)⟩ 0), ⟨[]⟩⟩
def o_161_831 (P : Params) : Obj := ⟨.none, none, (.func ⟨"unity", "unity", defArgs (top 112), .stmts (defBody (top 112)), defScope (top 112), 0, [], .none, .none, .none, .none, none, .none, .none, 0⟩), ⟨[]⟩⟩
def o_161_832 (P : Params) : Obj := ⟨(.type "code"), none, (.fields ⟨(([(.str "unity" 1301), (.str "unity" 1302), (.str "/claim/cut.py" 1303), (.int (490) 0), (.int (0) 0), (.int (0) 0), (.int (0) 0), (.int (3) 0), (.ref 827), (.bool true), (.int (181) 0), (.ref 828)] : List Value) ++ ([.none, (.ref 829), (.ref 830), (.ref 831), (.int (1304) 0), (.int (490) 0), (.str "/claim/cut.py" 1305)] : List Value))⟩), ⟨[]⟩⟩
def o_161_833 (P : Params) : Obj := ⟨(.type "function"), none, (.func ⟨"unity", "unity", defArgs (top 112), .stmts (defBody (top 112)), defScope (top 112), 3, [], .none, .none, .none, (.str "tenwhole.roots" 1293), none, (.ref 832), .none, 0⟩), ⟨[]⟩⟩
def o_161_834 (P : Params) : Obj := ⟨(.type "tuple"), none, (.seq ⟨([] : List Value)⟩ 0), ⟨[]⟩⟩
def o_161_835 (P : Params) : Obj := ⟨.none, none, (.fields ⟨([] : List Value)⟩), ⟨[]⟩⟩
def o_161_836 (P : Params) : Obj := ⟨(.type "tuple"), none, (.seq ⟨(([(.str "number" 1310), (.str "found" 1311), (.str "later" 1312)] : List Value))⟩ 0), ⟨[]⟩⟩
def o_161_837 (P : Params) : Obj := ⟨(.type "tuple"), none, (.seq ⟨([] : List Value)⟩ 0), ⟨[]⟩⟩
def o_161_838 (P : Params) : Obj := ⟨.none, none, (.func ⟨"root_floor", "root_floor", defArgs (top 113), .stmts (defBody (top 113)), defScope (top 113), 0, [], .none, .none, .none, .none, none, .none, .none, 0⟩), ⟨[]⟩⟩
def o_161_839 (P : Params) : Obj := ⟨(.type "code"), none, (.fields ⟨(([(.str "root_floor" 1307), (.str "root_floor" 1308), (.str "/claim/cut.py" 1309), (.int (492) 0), (.int (1) 0), (.int (0) 0), (.int (0) 0), (.int (3) 0), (.ref 834), (.bool true), (.int (181) 0), (.ref 835)] : List Value) ++ ([.none, (.ref 836), (.ref 837), (.ref 838), (.int (1313) 0), (.int (492) 0), (.str "/claim/cut.py" 1314)] : List Value))⟩), ⟨[]⟩⟩
def o_161_840 (P : Params) : Obj := ⟨(.type "function"), none, (.func ⟨"root_floor", "root_floor", defArgs (top 113), .stmts (defBody (top 113)), defScope (top 113), 3, [], .none, .none, .none, (.str "tenwhole.roots" 1293), none, (.ref 839), .none, 0⟩), ⟨[]⟩⟩
def o_161_841 (P : Params) : Obj := ⟨(.type "tuple"), none, (.seq ⟨([] : List Value)⟩ 0), ⟨[]⟩⟩
def o_161_842 (P : Params) : Obj := ⟨.none, none, (.fields ⟨([] : List Value)⟩), ⟨[]⟩⟩
def o_161_843 (P : Params) : Obj := ⟨(.type "tuple"), none, (.seq ⟨(([(.str "rules" 1319), (.str "a" 1320), (.str "even" 1321), (.str "told" 1322), (.str "odd" 1323), (.str "number" 1324), (.str "exponent" 1325), (.str "root" 1326), (.str "more" 1327)] : List Value))⟩ 0), ⟨[]⟩⟩
def o_161_844 (P : Params) : Obj := ⟨(.type "tuple"), none, (.seq ⟨([] : List Value)⟩ 0), ⟨[]⟩⟩
def o_161_845 (P : Params) : Obj := ⟨.none, none, (.func ⟨"sqrt", "sqrt", defArgs (top 114), .stmts (defBody (top 114)), defScope (top 114), 0, [], .none, .none, .none, .none, none, .none, .none, 0⟩), ⟨[]⟩⟩
def o_161_846 (P : Params) : Obj := ⟨(.type "code"), none, (.fields ⟨(([(.str "sqrt" 1316), (.str "sqrt" 1317), (.str "/claim/cut.py" 1318), (.int (499) 0), (.int (2) 0), (.int (0) 0), (.int (0) 0), (.int (3) 0), (.ref 841), (.bool true), (.int (181) 0), (.ref 842)] : List Value) ++ ([.none, (.ref 843), (.ref 844), (.ref 845), (.int (1328) 0), (.int (499) 0), (.str "/claim/cut.py" 1329)] : List Value))⟩), ⟨[]⟩⟩
def o_161_847 (P : Params) : Obj := ⟨(.type "function"), none, (.func ⟨"sqrt", "sqrt", defArgs (top 114), .stmts (defBody (top 114)), defScope (top 114), 3, [], .none, .none, .none, (.str "tenwhole.roots" 1293), none, (.ref 846), .none, 0⟩), ⟨[]⟩⟩
def o_161_848 (P : Params) : Obj := ⟨(.type "tuple"), none, (.seq ⟨([] : List Value)⟩ 0), ⟨[]⟩⟩
def o_161_849 (P : Params) : Obj := ⟨.none, none, (.fields ⟨([] : List Value)⟩), ⟨[]⟩⟩
def o_161_850 (P : Params) : Obj := ⟨(.type "tuple"), none, (.seq ⟨(([(.str "number" 1334), (.str "scale" 1335), (.str "found" 1336), (.str "power" 1337), (.str "n" 1338)] : List Value))⟩ 0), ⟨[]⟩⟩
def o_161_851 (P : Params) : Obj := ⟨(.type "tuple"), none, (.seq ⟨([] : List Value)⟩ 0), ⟨[]⟩⟩
def o_161_852 (P : Params) : Obj := ⟨.none, none, (.func ⟨"odd_sum", "odd_sum", defArgs (top 115), .stmts (defBody (top 115)), defScope (top 115), 0, [], .none, .none, .none, .none, none, .none, .none, 0⟩), ⟨[]⟩⟩
def o_161_853 (P : Params) : Obj := ⟨(.type "code"), none, (.fields ⟨(([(.str "odd_sum" 1331), (.str "odd_sum" 1332), (.str "/claim/cut.py" 1333), (.int (517) 0), (.int (2) 0), (.int (0) 0), (.int (0) 0), (.int (3) 0), (.ref 848), (.bool true), (.int (181) 0), (.ref 849)] : List Value) ++ ([.none, (.ref 850), (.ref 851), (.ref 852), (.int (1339) 0), (.int (517) 0), (.str "/claim/cut.py" 1340)] : List Value))⟩), ⟨[]⟩⟩
def o_161_854 (P : Params) : Obj := ⟨(.type "function"), none, (.func ⟨"odd_sum", "odd_sum", defArgs (top 115), .stmts (defBody (top 115)), defScope (top 115), 3, [], .none, .none, .none, (.str "tenwhole.roots" 1293), none, (.ref 853), .none, 0⟩), ⟨[]⟩⟩
def o_161_855 (P : Params) : Obj := ⟨(.type "tuple"), none, (.seq ⟨([] : List Value)⟩ 0), ⟨[]⟩⟩
def o_161_856 (P : Params) : Obj := ⟨.none, none, (.fields ⟨([] : List Value)⟩), ⟨[]⟩⟩
def o_161_857 (P : Params) : Obj := ⟨(.type "tuple"), none, (.seq ⟨(([(.str "places" 1345), (.str "scale" 1346)] : List Value))⟩ 0), ⟨[]⟩⟩
def o_161_858 (P : Params) : Obj := ⟨(.type "tuple"), none, (.seq ⟨([] : List Value)⟩ 0), ⟨[]⟩⟩
def o_161_859 (P : Params) : Obj := ⟨.none, none, (.func ⟨"ten_log", "ten_log", defArgs (top 116), .stmts (defBody (top 116)), defScope (top 116), 0, [], .none, .none, .none, .none, none, .none, .none, 0⟩), ⟨[]⟩⟩
def o_161_860 (P : Params) : Obj := ⟨(.type "code"), none, (.fields ⟨(([(.str "ten_log" 1342), (.str "ten_log" 1343), (.str "/claim/cut.py" 1344), (.int (523) 0), (.int (1) 0), (.int (0) 0), (.int (0) 0), (.int (3) 0), (.ref 855), (.bool true), (.int (181) 0), (.ref 856)] : List Value) ++ ([.none, (.ref 857), (.ref 858), (.ref 859), (.int (1347) 0), (.int (523) 0), (.str "/claim/cut.py" 1348)] : List Value))⟩), ⟨[]⟩⟩
def o_161_861 (P : Params) : Obj := ⟨(.type "function"), none, (.func ⟨"ten_log", "ten_log", defArgs (top 116), .stmts (defBody (top 116)), defScope (top 116), 3, [], .none, .none, .none, (.str "tenwhole.roots" 1293), none, (.ref 860), .none, 0⟩), ⟨[]⟩⟩
def o_161_862 (P : Params) : Obj := ⟨(.type "tuple"), none, (.seq ⟨([] : List Value)⟩ 0), ⟨[]⟩⟩
def o_161_863 (P : Params) : Obj := ⟨.none, none, (.fields ⟨([] : List Value)⟩), ⟨[]⟩⟩
def o_161_864 (P : Params) : Obj := ⟨(.type "tuple"), none, (.seq ⟨(([(.str "coefficient" 1353), (.str "exponent" 1354), (.str "places" 1355), (.str "digits" 1356), (.str "is_high" 1357), (.str "bottom" 1358), (.str "power" 1359), (.str "fine" 1360), (.str "scale" 1361), (.str "part" 1362), (.str "square" 1363), (.str "total" 1364)] : List Value) ++ ([(.str "step" 1365), (.str "n" 1366), (.str "error" 1367)] : List Value))⟩ 0), ⟨[]⟩⟩
def o_161_865 (P : Params) : Obj := ⟨(.type "tuple"), none, (.seq ⟨([] : List Value)⟩ 0), ⟨[]⟩⟩
def o_161_866 (P : Params) : Obj := ⟨.none, none, (.func ⟨"log_bounds", "log_bounds", defArgs (top 117), .stmts (defBody (top 117)), defScope (top 117), 0, [], .none, .none, .none, .none, none, .none, .none, 0⟩), ⟨[]⟩⟩
def o_161_867 (P : Params) : Obj := ⟨(.type "code"), none, (.fields ⟨(([(.str "log_bounds" 1350), (.str "log_bounds" 1351), (.str "/claim/cut.py" 1352), (.int (526) 0), (.int (3) 0), (.int (0) 0), (.int (0) 0), (.int (3) 0), (.ref 862), (.bool true), (.int (181) 0), (.ref 863)] : List Value) ++ ([.none, (.ref 864), (.ref 865), (.ref 866), (.int (1368) 0), (.int (526) 0), (.str "/claim/cut.py" 1369)] : List Value))⟩), ⟨[]⟩⟩
def o_161_868 (P : Params) : Obj := ⟨(.type "function"), none, (.func ⟨"log_bounds", "log_bounds", defArgs (top 117), .stmts (defBody (top 117)), defScope (top 117), 3, [], .none, .none, .none, (.str "tenwhole.roots" 1293), none, (.ref 867), .none, 0⟩), ⟨[]⟩⟩
def o_161_869 (P : Params) : Obj := ⟨(.type "tuple"), none, (.seq ⟨([] : List Value)⟩ 0), ⟨[]⟩⟩
def o_161_870 (P : Params) : Obj := ⟨.none, none, (.fields ⟨([] : List Value)⟩), ⟨[]⟩⟩
def o_161_871 (P : Params) : Obj := ⟨(.type "tuple"), none, (.seq ⟨(([(.str "rest" 1374), (.str "places" 1375), (.str "scale" 1376), (.str "total" 1377), (.str "term" 1378), (.str "n" 1379)] : List Value))⟩ 0), ⟨[]⟩⟩
def o_161_872 (P : Params) : Obj := ⟨(.type "tuple"), none, (.seq ⟨([] : List Value)⟩ 0), ⟨[]⟩⟩
def o_161_873 (P : Params) : Obj := ⟨.none, none, (.func ⟨"exp_sum", "exp_sum", defArgs (top 118), .stmts (defBody (top 118)), defScope (top 118), 0, [], .none, .none, .none, .none, none, .none, .none, 0⟩), ⟨[]⟩⟩
def o_161_874 (P : Params) : Obj := ⟨(.type "code"), none, (.fields ⟨(([(.str "exp_sum" 1371), (.str "exp_sum" 1372), (.str "/claim/cut.py" 1373), (.int (540) 0), (.int (2) 0), (.int (0) 0), (.int (0) 0), (.int (3) 0), (.ref 869), (.bool true), (.int (181) 0), (.ref 870)] : List Value) ++ ([.none, (.ref 871), (.ref 872), (.ref 873), (.int (1380) 0), (.int (540) 0), (.str "/claim/cut.py" 1381)] : List Value))⟩), ⟨[]⟩⟩
def o_161_875 (P : Params) : Obj := ⟨(.type "function"), none, (.func ⟨"exp_sum", "exp_sum", defArgs (top 118), .stmts (defBody (top 118)), defScope (top 118), 3, [], .none, .none, .none, (.str "tenwhole.roots" 1293), none, (.ref 874), .none, 0⟩), ⟨[]⟩⟩
def o_161_876 (P : Params) : Obj := ⟨(.type "tuple"), none, (.seq ⟨([] : List Value)⟩ 0), ⟨[]⟩⟩
def o_161_877 (P : Params) : Obj := ⟨.none, none, (.fields ⟨([] : List Value)⟩), ⟨[]⟩⟩
def o_161_878 (P : Params) : Obj := ⟨(.type "tuple"), none, (.seq ⟨(([(.str "low" 1386), (.str "high" 1387), (.str "places" 1388), (.str "ten" 1389), (.str "power" 1390), (.str "first" 1391), (.str "last" 1392), (.str "total" 1393), (.str "many" 1394), (.str "error" 1395)] : List Value))⟩ 0), ⟨[]⟩⟩
def o_161_879 (P : Params) : Obj := ⟨(.type "tuple"), none, (.seq ⟨([] : List Value)⟩ 0), ⟨[]⟩⟩
def o_161_880 (P : Params) : Obj := ⟨.none, none, (.func ⟨"exp_bounds", "exp_bounds", defArgs (top 119), .stmts (defBody (top 119)), defScope (top 119), 0, [], .none, .none, .none, .none, none, .none, .none, 0⟩), ⟨[]⟩⟩
def o_161_881 (P : Params) : Obj := ⟨(.type "code"), none, (.fields ⟨(([(.str "exp_bounds" 1383), (.str "exp_bounds" 1384), (.str "/claim/cut.py" 1385), (.int (547) 0), (.int (3) 0), (.int (0) 0), (.int (0) 0), (.int (3) 0), (.ref 876), (.bool true), (.int (181) 0), (.ref 877)] : List Value) ++ ([.none, (.ref 878), (.ref 879), (.ref 880), (.int (1396) 0), (.int (547) 0), (.str "/claim/cut.py" 1397)] : List Value))⟩), ⟨[]⟩⟩
def o_161_882 (P : Params) : Obj := ⟨(.type "function"), none, (.func ⟨"exp_bounds", "exp_bounds", defArgs (top 119), .stmts (defBody (top 119)), defScope (top 119), 3, [], .none, .none, .none, (.str "tenwhole.roots" 1293), none, (.ref 881), .none, 0⟩), ⟨[]⟩⟩
def o_161_883 (P : Params) : Obj := ⟨(.type "tuple"), none, (.seq ⟨([] : List Value)⟩ 0), ⟨[]⟩⟩
def o_161_884 (P : Params) : Obj := ⟨.none, none, (.fields ⟨([] : List Value)⟩), ⟨[]⟩⟩
def o_161_885 (P : Params) : Obj := ⟨(.type "tuple"), none, (.seq ⟨(([(.str "prec" 1402), (.str "bounds" 1403), (.str "first" 1404), (.str "last" 1405), (.str "power" 1406), (.str "cut" 1407)] : List Value))⟩ 0), ⟨[]⟩⟩
def o_161_886 (P : Params) : Obj := ⟨(.type "tuple"), none, (.seq ⟨([] : List Value)⟩ 0), ⟨[]⟩⟩
def o_161_887 (P : Params) : Obj := ⟨.none, none, (.func ⟨"told_digits", "told_digits", defArgs (top 120), .stmts (defBody (top 120)), defScope (top 120), 0, [], .none, .none, .none, .none, none, .none, .none, 0⟩), ⟨[]⟩⟩
def o_161_888 (P : Params) : Obj := ⟨(.type "code"), none, (.fields ⟨(([(.str "told_digits" 1399), (.str "told_digits" 1400), (.str "/claim/cut.py" 1401), (.int (555) 0), (.int (2) 0), (.int (0) 0), (.int (0) 0), (.int (3) 0), (.ref 883), (.bool true), (.int (181) 0), (.ref 884)] : List Value) ++ ([.none, (.ref 885), (.ref 886), (.ref 887), (.int (1408) 0), (.int (555) 0), (.str "/claim/cut.py" 1409)] : List Value))⟩), ⟨[]⟩⟩
def o_161_889 (P : Params) : Obj := ⟨(.type "function"), none, (.func ⟨"told_digits", "told_digits", defArgs (top 120), .stmts (defBody (top 120)), defScope (top 120), 3, [], .none, .none, .none, (.str "tenwhole.roots" 1293), none, (.ref 888), .none, 0⟩), ⟨[]⟩⟩
def o_161_890 (P : Params) : Obj := ⟨(.type "tuple"), none, (.seq ⟨([] : List Value)⟩ 0), ⟨[]⟩⟩
def o_161_891 (P : Params) : Obj := ⟨.none, none, (.fields ⟨([] : List Value)⟩), ⟨[]⟩⟩
def o_161_892 (P : Params) : Obj := ⟨(.type "tuple"), none, (.seq ⟨(([(.str "rules" 1414), (.str "sign" 1415), (.str "is_up" 1416)] : List Value))⟩ 0), ⟨[]⟩⟩
def o_161_893 (P : Params) : Obj := ⟨(.type "tuple"), none, (.seq ⟨([] : List Value)⟩ 0), ⟨[]⟩⟩
def o_161_894 (P : Params) : Obj := ⟨.none, none, (.func ⟨"far_told", "far_told", defArgs (top 121), .stmts (defBody (top 121)), defScope (top 121), 0, [], .none, .none, .none, .none, none, .none, .none, 0⟩), ⟨[]⟩⟩
def o_161_895 (P : Params) : Obj := ⟨(.type "code"), none, (.fields ⟨(([(.str "far_told" 1411), (.str "far_told" 1412), (.str "/claim/cut.py" 1413), (.int (561) 0), (.int (3) 0), (.int (0) 0), (.int (0) 0), (.int (3) 0), (.ref 890), (.bool true), (.int (181) 0), (.ref 891)] : List Value) ++ ([.none, (.ref 892), (.ref 893), (.ref 894), (.int (1417) 0), (.int (561) 0), (.str "/claim/cut.py" 1418)] : List Value))⟩), ⟨[]⟩⟩
def o_161_896 (P : Params) : Obj := ⟨(.type "function"), none, (.func ⟨"far_told", "far_told", defArgs (top 121), .stmts (defBody (top 121)), defScope (top 121), 3, [], .none, .none, .none, (.str "tenwhole.roots" 1293), none, (.ref 895), .none, 0⟩), ⟨[]⟩⟩
def o_161_897 (P : Params) : Obj := ⟨(.type "tuple"), none, (.seq ⟨([] : List Value)⟩ 0), ⟨[]⟩⟩
def o_161_898 (P : Params) : Obj := ⟨.none, none, (.fields ⟨([] : List Value)⟩), ⟨[]⟩⟩
def o_161_899 (P : Params) : Obj := ⟨(.type "tuple"), none, (.seq ⟨(([(.str "rules" 1423), (.str "sign" 1424), (.str "is_up" 1425)] : List Value))⟩ 0), ⟨[]⟩⟩
def o_161_900 (P : Params) : Obj := ⟨(.type "tuple"), none, (.seq ⟨([] : List Value)⟩ 0), ⟨[]⟩⟩
def o_161_901 (P : Params) : Obj := ⟨.none, none, (.func ⟨"near_one", "near_one", defArgs (top 122), .stmts (defBody (top 122)), defScope (top 122), 0, [], .none, .none, .none, .none, none, .none, .none, 0⟩), ⟨[]⟩⟩
def o_161_902 (P : Params) : Obj := ⟨(.type "code"), none, (.fields ⟨(([(.str "near_one" 1420), (.str "near_one" 1421), (.str "/claim/cut.py" 1422), (.int (565) 0), (.int (3) 0), (.int (0) 0), (.int (0) 0), (.int (3) 0), (.ref 897), (.bool true), (.int (181) 0), (.ref 898)] : List Value) ++ ([.none, (.ref 899), (.ref 900), (.ref 901), (.int (1426) 0), (.int (565) 0), (.str "/claim/cut.py" 1427)] : List Value))⟩), ⟨[]⟩⟩
def o_161_903 (P : Params) : Obj := ⟨(.type "function"), none, (.func ⟨"near_one", "near_one", defArgs (top 122), .stmts (defBody (top 122)), defScope (top 122), 3, [], .none, .none, .none, (.str "tenwhole.roots" 1293), none, (.ref 902), .none, 0⟩), ⟨[]⟩⟩
def o_161_904 (P : Params) : Obj := ⟨(.type "tuple"), none, (.seq ⟨([] : List Value)⟩ 0), ⟨[]⟩⟩
def o_161_905 (P : Params) : Obj := ⟨.none, none, (.fields ⟨([] : List Value)⟩), ⟨[]⟩⟩
def o_161_906 (P : Params) : Obj := ⟨(.type "tuple"), none, (.seq ⟨(([(.str "sign" 1432), (.str "coefficient" 1433), (.str "shift" 1434), (.str "number" 1435)] : List Value))⟩ 0), ⟨[]⟩⟩
def o_161_907 (P : Params) : Obj := ⟨(.type "tuple"), none, (.seq ⟨([] : List Value)⟩ 0), ⟨[]⟩⟩
def o_161_908 (P : Params) : Obj := ⟨.none, none, (.func ⟨"floor_scaled", "floor_scaled", defArgs (top 123), .stmts (defBody (top 123)), defScope (top 123), 0, [], .none, .none, .none, .none, none, .none, .none, 0⟩), ⟨[]⟩⟩
def o_161_909 (P : Params) : Obj := ⟨(.type "code"), none, (.fields ⟨(([(.str "floor_scaled" 1429), (.str "floor_scaled" 1430), (.str "/claim/cut.py" 1431), (.int (569) 0), (.int (3) 0), (.int (0) 0), (.int (0) 0), (.int (3) 0), (.ref 904), (.bool true), (.int (181) 0), (.ref 905)] : List Value) ++ ([.none, (.ref 906), (.ref 907), (.ref 908), (.int (1436) 0), (.int (569) 0), (.str "/claim/cut.py" 1437)] : List Value))⟩), ⟨[]⟩⟩
def o_161_910 (P : Params) : Obj := ⟨(.type "function"), none, (.func ⟨"floor_scaled", "floor_scaled", defArgs (top 123), .stmts (defBody (top 123)), defScope (top 123), 3, [], .none, .none, .none, (.str "tenwhole.roots" 1293), none, (.ref 909), .none, 0⟩), ⟨[]⟩⟩
def o_161_911 (P : Params) : Obj := ⟨(.type "tuple"), none, (.seq ⟨([] : List Value)⟩ 0), ⟨[]⟩⟩
def o_161_912 (P : Params) : Obj := ⟨.none, none, (.fields ⟨([] : List Value)⟩), ⟨[]⟩⟩
def o_161_913 (P : Params) : Obj := ⟨(.type "tuple"), none, (.seq ⟨(([(.str "rules" 1442), (.str "a" 1443), (.str "even" 1444), (.str "told" 1445), (.str "places" 1446), (.str "found" 1447), (.str "low" 1448)] : List Value))⟩ 0), ⟨[]⟩⟩
def o_161_914 (P : Params) : Obj := ⟨(.type "tuple"), none, (.seq ⟨([] : List Value)⟩ 0), ⟨[]⟩⟩
def o_161_915 (P : Params) : Obj := ⟨.none, none, (.func ⟨"exp", "exp", defArgs (top 124), .stmts (defBody (top 124)), defScope (top 124), 0, [], .none, .none, .none, .none, none, .none, .none, 0⟩), ⟨[]⟩⟩
def o_161_916 (P : Params) : Obj := ⟨(.type "code"), none, (.fields ⟨(([(.str "exp" 1439), (.str "exp" 1440), (.str "/claim/cut.py" 1441), (.int (572) 0), (.int (2) 0), (.int (0) 0), (.int (0) 0), (.int (3) 0), (.ref 911), (.bool true), (.int (181) 0), (.ref 912)] : List Value) ++ ([.none, (.ref 913), (.ref 914), (.ref 915), (.int (1449) 0), (.int (572) 0), (.str "/claim/cut.py" 1450)] : List Value))⟩), ⟨[]⟩⟩
def o_161_917 (P : Params) : Obj := ⟨(.type "function"), none, (.func ⟨"exp", "exp", defArgs (top 124), .stmts (defBody (top 124)), defScope (top 124), 3, [], .none, .none, .none, (.str "tenwhole.roots" 1293), none, (.ref 916), .none, 0⟩), ⟨[]⟩⟩
def o_161_918 (P : Params) : Obj := ⟨(.type "tuple"), none, (.seq ⟨([] : List Value)⟩ 0), ⟨[]⟩⟩
def o_161_919 (P : Params) : Obj := ⟨.none, none, (.fields ⟨([] : List Value)⟩), ⟨[]⟩⟩
def o_161_920 (P : Params) : Obj := ⟨(.type "tuple"), none, (.seq ⟨(([(.str "a" 1455), (.str "adjusted" 1456)] : List Value))⟩ 0), ⟨[]⟩⟩
def o_161_921 (P : Params) : Obj := ⟨(.type "tuple"), none, (.seq ⟨([] : List Value)⟩ 0), ⟨[]⟩⟩
def o_161_922 (P : Params) : Obj := ⟨.none, none, (.func ⟨"log_size", "log_size", defArgs (top 125), .stmts (defBody (top 125)), defScope (top 125), 0, [], .none, .none, .none, .none, none, .none, .none, 0⟩), ⟨[]⟩⟩
def o_161_923 (P : Params) : Obj := ⟨(.type "code"), none, (.fields ⟨(([(.str "log_size" 1452), (.str "log_size" 1453), (.str "/claim/cut.py" 1454), (.int (592) 0), (.int (1) 0), (.int (0) 0), (.int (0) 0), (.int (3) 0), (.ref 918), (.bool true), (.int (181) 0), (.ref 919)] : List Value) ++ ([.none, (.ref 920), (.ref 921), (.ref 922), (.int (1457) 0), (.int (592) 0), (.str "/claim/cut.py" 1458)] : List Value))⟩), ⟨[]⟩⟩
def o_161_924 (P : Params) : Obj := ⟨(.type "function"), none, (.func ⟨"log_size", "log_size", defArgs (top 125), .stmts (defBody (top 125)), defScope (top 125), 3, [], .none, .none, .none, (.str "tenwhole.roots" 1293), none, (.ref 923), .none, 0⟩), ⟨[]⟩⟩
def o_161_925 (P : Params) : Obj := ⟨(.type "tuple"), none, (.seq ⟨([] : List Value)⟩ 0), ⟨[]⟩⟩
def o_161_926 (P : Params) : Obj := ⟨.none, none, (.fields ⟨([] : List Value)⟩), ⟨[]⟩⟩
def o_161_927 (P : Params) : Obj := ⟨(.type "tuple"), none, (.seq ⟨(([(.str "low" 1463), (.str "high" 1464)] : List Value))⟩ 0), ⟨[]⟩⟩
def o_161_928 (P : Params) : Obj := ⟨(.type "tuple"), none, (.seq ⟨([] : List Value)⟩ 0), ⟨[]⟩⟩
def o_161_929 (P : Params) : Obj := ⟨.none, none, (.func ⟨"turned_bounds", "turned_bounds", defArgs (top 126), .stmts (defBody (top 126)), defScope (top 126), 0, [], .none, .none, .none, .none, none, .none, .none, 0⟩), ⟨[]⟩⟩
def o_161_930 (P : Params) : Obj := ⟨(.type "code"), none, (.fields ⟨(([(.str "turned_bounds" 1460), (.str "turned_bounds" 1461), (.str "/claim/cut.py" 1462), (.int (597) 0), (.int (2) 0), (.int (0) 0), (.int (0) 0), (.int (3) 0), (.ref 925), (.bool true), (.int (181) 0), (.ref 926)] : List Value) ++ ([.none, (.ref 927), (.ref 928), (.ref 929), (.int (1465) 0), (.int (597) 0), (.str "/claim/cut.py" 1466)] : List Value))⟩), ⟨[]⟩⟩
def o_161_931 (P : Params) : Obj := ⟨(.type "function"), none, (.func ⟨"turned_bounds", "turned_bounds", defArgs (top 126), .stmts (defBody (top 126)), defScope (top 126), 3, [], .none, .none, .none, (.str "tenwhole.roots" 1293), none, (.ref 930), .none, 0⟩), ⟨[]⟩⟩
def o_161_932 (P : Params) : Obj := ⟨(.type "tuple"), none, (.seq ⟨([] : List Value)⟩ 0), ⟨[]⟩⟩
def o_161_933 (P : Params) : Obj := ⟨.none, none, (.fields ⟨([] : List Value)⟩), ⟨[]⟩⟩
def o_161_934 (P : Params) : Obj := ⟨(.type "tuple"), none, (.seq ⟨(([(.str "rules" 1471), (.str "a" 1472), (.str "told" 1473)] : List Value))⟩ 0), ⟨[]⟩⟩
def o_161_935 (P : Params) : Obj := ⟨(.type "tuple"), none, (.seq ⟨([] : List Value)⟩ 0), ⟨[]⟩⟩
def o_161_936 (P : Params) : Obj := ⟨.none, none, (.func ⟨"log_special", "log_special", defArgs (top 127), .stmts (defBody (top 127)), defScope (top 127), 0, [], .none, .none, .none, .none, none, .none, .none, 0⟩), ⟨[]⟩⟩
def o_161_937 (P : Params) : Obj := ⟨(.type "code"), none, (.fields ⟨(([(.str "log_special" 1468), (.str "log_special" 1469), (.str "/claim/cut.py" 1470), (.int (599) 0), (.int (2) 0), (.int (0) 0), (.int (0) 0), (.int (3) 0), (.ref 932), (.bool true), (.int (181) 0), (.ref 933)] : List Value) ++ ([.none, (.ref 934), (.ref 935), (.ref 936), (.int (1474) 0), (.int (599) 0), (.str "/claim/cut.py" 1475)] : List Value))⟩), ⟨[]⟩⟩
def o_161_938 (P : Params) : Obj := ⟨(.type "function"), none, (.func ⟨"log_special", "log_special", defArgs (top 127), .stmts (defBody (top 127)), defScope (top 127), 3, [], .none, .none, .none, (.str "tenwhole.roots" 1293), none, (.ref 937), .none, 0⟩), ⟨[]⟩⟩
def o_161_939 (P : Params) : Obj := ⟨(.type "tuple"), none, (.seq ⟨([] : List Value)⟩ 0), ⟨[]⟩⟩
def o_161_940 (P : Params) : Obj := ⟨.none, none, (.fields ⟨([] : List Value)⟩), ⟨[]⟩⟩
def o_161_941 (P : Params) : Obj := ⟨(.type "tuple"), none, (.seq ⟨(([(.str "rules" 1480), (.str "a" 1481), (.str "told" 1482), (.str "places" 1483), (.str "found" 1484), (.str "sign" 1485), (.str "low" 1486), (.str "high" 1487)] : List Value))⟩ 0), ⟨[]⟩⟩
def o_161_942 (P : Params) : Obj := ⟨(.type "tuple"), none, (.seq ⟨([] : List Value)⟩ 0), ⟨[]⟩⟩
def o_161_943 (P : Params) : Obj := ⟨.none, none, (.func ⟨"ln", "ln", defArgs (top 128), .stmts (defBody (top 128)), defScope (top 128), 0, [], .none, .none, .none, .none, none, .none, .none, 0⟩), ⟨[]⟩⟩
def o_161_944 (P : Params) : Obj := ⟨(.type "code"), none, (.fields ⟨(([(.str "ln" 1477), (.str "ln" 1478), (.str "/claim/cut.py" 1479), (.int (608) 0), (.int (2) 0), (.int (0) 0), (.int (0) 0), (.int (3) 0), (.ref 939), (.bool true), (.int (181) 0), (.ref 940)] : List Value) ++ ([.none, (.ref 941), (.ref 942), (.ref 943), (.int (1488) 0), (.int (608) 0), (.str "/claim/cut.py" 1489)] : List Value))⟩), ⟨[]⟩⟩
def o_161_945 (P : Params) : Obj := ⟨(.type "function"), none, (.func ⟨"ln", "ln", defArgs (top 128), .stmts (defBody (top 128)), defScope (top 128), 3, [], .none, .none, .none, (.str "tenwhole.roots" 1293), none, (.ref 944), .none, 0⟩), ⟨[]⟩⟩
def o_161_946 (P : Params) : Obj := ⟨(.type "tuple"), none, (.seq ⟨([] : List Value)⟩ 0), ⟨[]⟩⟩
def o_161_947 (P : Params) : Obj := ⟨.none, none, (.fields ⟨([] : List Value)⟩), ⟨[]⟩⟩
def o_161_948 (P : Params) : Obj := ⟨(.type "tuple"), none, (.seq ⟨(([(.str "rules" 1494), (.str "a" 1495), (.str "told" 1496), (.str "even" 1497), (.str "power" 1498), (.str "places" 1499), (.str "found" 1500), (.str "sign" 1501), (.str "low" 1502), (.str "high" 1503), (.str "scale" 1504), (.str "ten" 1505)] : List Value))⟩ 0), ⟨[]⟩⟩
def o_161_949 (P : Params) : Obj := ⟨(.type "tuple"), none, (.seq ⟨([] : List Value)⟩ 0), ⟨[]⟩⟩
def o_161_950 (P : Params) : Obj := ⟨.none, none, (.func ⟨"log10", "log10", defArgs (top 129), .stmts (defBody (top 129)), defScope (top 129), 0, [], .none, .none, .none, .none, none, .none, .none, 0⟩), ⟨[]⟩⟩
def o_161_951 (P : Params) : Obj := ⟨(.type "code"), none, (.fields ⟨(([(.str "log10" 1491), (.str "log10" 1492), (.str "/claim/cut.py" 1493), (.int (622) 0), (.int (2) 0), (.int (0) 0), (.int (0) 0), (.int (3) 0), (.ref 946), (.bool true), (.int (181) 0), (.ref 947)] : List Value) ++ ([.none, (.ref 948), (.ref 949), (.ref 950), (.int (1506) 0), (.int (622) 0), (.str "/claim/cut.py" 1507)] : List Value))⟩), ⟨[]⟩⟩
def o_161_952 (P : Params) : Obj := ⟨(.type "function"), none, (.func ⟨"log10", "log10", defArgs (top 129), .stmts (defBody (top 129)), defScope (top 129), 3, [], .none, .none, .none, (.str "tenwhole.roots" 1293), none, (.ref 951), .none, 0⟩), ⟨[]⟩⟩
def o_161_953 (P : Params) : Obj := ⟨(.type "tuple"), none, (.seq ⟨([] : List Value)⟩ 0), ⟨[]⟩⟩
def o_161_954 (P : Params) : Obj := ⟨.none, none, (.fields ⟨([] : List Value)⟩), ⟨[]⟩⟩
def o_161_955 (P : Params) : Obj := ⟨(.type "tuple"), none, (.seq ⟨(([(.str "a" 1516)] : List Value))⟩ 0), ⟨[]⟩⟩
def o_161_956 (P : Params) : Obj := ⟨(.type "tuple"), none, (.seq ⟨([] : List Value)⟩ 0), ⟨[]⟩⟩
def o_161_957 (P : Params) : Obj := ⟨.none, none, (.func ⟨"is_whole", "is_whole", defArgs (top 132), .stmts (defBody (top 132)), defScope (top 132), 0, [], .none, .none, .none, .none, none, .none, .none, 0⟩), ⟨[]⟩⟩
def o_161_958 (P : Params) : Obj := ⟨(.type "code"), none, (.fields ⟨(([(.str "is_whole" 1513), (.str "is_whole" 1514), (.str "/claim/cut.py" 1515), (.int (640) 0), (.int (1) 0), (.int (0) 0), (.int (0) 0), (.int (3) 0), (.ref 953), (.bool true), (.int (181) 0), (.ref 954)] : List Value) ++ ([.none, (.ref 955), (.ref 956), (.ref 957), (.int (1517) 0), (.int (640) 0), (.str "/claim/cut.py" 1518)] : List Value))⟩), ⟨[]⟩⟩
def o_161_959 (P : Params) : Obj := ⟨(.type "function"), none, (.func ⟨"is_whole", "is_whole", defArgs (top 132), .stmts (defBody (top 132)), defScope (top 132), 3, [], .none, .none, .none, (.str "tenwhole.powers" 1509), none, (.ref 958), .none, 0⟩), ⟨[]⟩⟩
def o_161_960 (P : Params) : Obj := ⟨(.type "tuple"), none, (.seq ⟨([] : List Value)⟩ 0), ⟨[]⟩⟩
def o_161_961 (P : Params) : Obj := ⟨.none, none, (.fields ⟨([] : List Value)⟩), ⟨[]⟩⟩
def o_161_962 (P : Params) : Obj := ⟨(.type "tuple"), none, (.seq ⟨(([(.str "a" 1523)] : List Value))⟩ 0), ⟨[]⟩⟩
def o_161_963 (P : Params) : Obj := ⟨(.type "tuple"), none, (.seq ⟨([] : List Value)⟩ 0), ⟨[]⟩⟩
def o_161_964 (P : Params) : Obj := ⟨.none, none, (.func ⟨"whole_of", "whole_of", defArgs (top 133), .stmts (defBody (top 133)), defScope (top 133), 0, [], .none, .none, .none, .none, none, .none, .none, 0⟩), ⟨[]⟩⟩
def o_161_965 (P : Params) : Obj := ⟨(.type "code"), none, (.fields ⟨(([(.str "whole_of" 1520), (.str "whole_of" 1521), (.str "/claim/cut.py" 1522), (.int (646) 0), (.int (1) 0), (.int (0) 0), (.int (0) 0), (.int (3) 0), (.ref 960), (.bool true), (.int (181) 0), (.ref 961)] : List Value) ++ ([.none, (.ref 962), (.ref 963), (.ref 964), (.int (1524) 0), (.int (646) 0), (.str "/claim/cut.py" 1525)] : List Value))⟩), ⟨[]⟩⟩
def o_161_966 (P : Params) : Obj := ⟨(.type "function"), none, (.func ⟨"whole_of", "whole_of", defArgs (top 133), .stmts (defBody (top 133)), defScope (top 133), 3, [], .none, .none, .none, (.str "tenwhole.powers" 1509), none, (.ref 965), .none, 0⟩), ⟨[]⟩⟩
def o_161_967 (P : Params) : Obj := ⟨(.type "tuple"), none, (.seq ⟨([] : List Value)⟩ 0), ⟨[]⟩⟩
def o_161_968 (P : Params) : Obj := ⟨.none, none, (.fields ⟨([] : List Value)⟩), ⟨[]⟩⟩
def o_161_969 (P : Params) : Obj := ⟨(.type "tuple"), none, (.seq ⟨(([(.str "a" 1530)] : List Value))⟩ 0), ⟨[]⟩⟩
def o_161_970 (P : Params) : Obj := ⟨(.type "tuple"), none, (.seq ⟨([] : List Value)⟩ 0), ⟨[]⟩⟩
def o_161_971 (P : Params) : Obj := ⟨.none, none, (.func ⟨"is_odd", "is_odd", defArgs (top 134), .stmts (defBody (top 134)), defScope (top 134), 0, [], .none, .none, .none, .none, none, .none, .none, 0⟩), ⟨[]⟩⟩
def o_161_972 (P : Params) : Obj := ⟨(.type "code"), none, (.fields ⟨(([(.str "is_odd" 1527), (.str "is_odd" 1528), (.str "/claim/cut.py" 1529), (.int (650) 0), (.int (1) 0), (.int (0) 0), (.int (0) 0), (.int (3) 0), (.ref 967), (.bool true), (.int (181) 0), (.ref 968)] : List Value) ++ ([.none, (.ref 969), (.ref 970), (.ref 971), (.int (1531) 0), (.int (650) 0), (.str "/claim/cut.py" 1532)] : List Value))⟩), ⟨[]⟩⟩
def o_161_973 (P : Params) : Obj := ⟨(.type "function"), none, (.func ⟨"is_odd", "is_odd", defArgs (top 134), .stmts (defBody (top 134)), defScope (top 134), 3, [], .none, .none, .none, (.str "tenwhole.powers" 1509), none, (.ref 972), .none, 0⟩), ⟨[]⟩⟩
def o_161_974 (P : Params) : Obj := ⟨(.type "tuple"), none, (.seq ⟨([] : List Value)⟩ 0), ⟨[]⟩⟩
def o_161_975 (P : Params) : Obj := ⟨.none, none, (.fields ⟨([] : List Value)⟩), ⟨[]⟩⟩
def o_161_976 (P : Params) : Obj := ⟨(.type "tuple"), none, (.seq ⟨(([(.str "base" 1537), (.str "many" 1538), (.str "found" 1539)] : List Value))⟩ 0), ⟨[]⟩⟩
def o_161_977 (P : Params) : Obj := ⟨(.type "tuple"), none, (.seq ⟨([] : List Value)⟩ 0), ⟨[]⟩⟩
def o_161_978 (P : Params) : Obj := ⟨.none, none, (.func ⟨"raised", "raised", defArgs (top 135), .stmts (defBody (top 135)), defScope (top 135), 0, [], .none, .none, .none, .none, none, .none, .none, 0⟩), ⟨[]⟩⟩
def o_161_979 (P : Params) : Obj := ⟨(.type "code"), none, (.fields ⟨(([(.str "raised" 1534), (.str "raised" 1535), (.str "/claim/cut.py" 1536), (.int (652) 0), (.int (2) 0), (.int (0) 0), (.int (0) 0), (.int (3) 0), (.ref 974), (.bool true), (.int (181) 0), (.ref 975)] : List Value) ++ ([.none, (.ref 976), (.ref 977), (.ref 978), (.int (1540) 0), (.int (652) 0), (.str "/claim/cut.py" 1541)] : List Value))⟩), ⟨[]⟩⟩
def o_161_980 (P : Params) : Obj := ⟨(.type "function"), none, (.func ⟨"raised", "raised", defArgs (top 135), .stmts (defBody (top 135)), defScope (top 135), 3, [], .none, .none, .none, (.str "tenwhole.powers" 1509), none, (.ref 979), .none, 0⟩), ⟨[]⟩⟩
def o_161_981 (P : Params) : Obj := ⟨(.type "tuple"), none, (.seq ⟨([] : List Value)⟩ 0), ⟨[]⟩⟩
def o_161_982 (P : Params) : Obj := ⟨.none, none, (.fields ⟨([] : List Value)⟩), ⟨[]⟩⟩
def o_161_983 (P : Params) : Obj := ⟨(.type "tuple"), none, (.seq ⟨(([(.str "one" 1546), (.str "other" 1547)] : List Value))⟩ 0), ⟨[]⟩⟩
def o_161_984 (P : Params) : Obj := ⟨(.type "tuple"), none, (.seq ⟨([] : List Value)⟩ 0), ⟨[]⟩⟩
def o_161_985 (P : Params) : Obj := ⟨.none, none, (.func ⟨"common", "common", defArgs (top 136), .stmts (defBody (top 136)), defScope (top 136), 0, [], .none, .none, .none, .none, none, .none, .none, 0⟩), ⟨[]⟩⟩
def o_161_986 (P : Params) : Obj := ⟨(.type "code"), none, (.fields ⟨(([(.str "common" 1543), (.str "common" 1544), (.str "/claim/cut.py" 1545), (.int (659) 0), (.int (2) 0), (.int (0) 0), (.int (0) 0), (.int (3) 0), (.ref 981), (.bool true), (.int (181) 0), (.ref 982)] : List Value) ++ ([.none, (.ref 983), (.ref 984), (.ref 985), (.int (1548) 0), (.int (659) 0), (.str "/claim/cut.py" 1549)] : List Value))⟩), ⟨[]⟩⟩
def o_161_987 (P : Params) : Obj := ⟨(.type "function"), none, (.func ⟨"common", "common", defArgs (top 136), .stmts (defBody (top 136)), defScope (top 136), 3, [], .none, .none, .none, (.str "tenwhole.powers" 1509), none, (.ref 986), .none, 0⟩), ⟨[]⟩⟩
def o_161_988 (P : Params) : Obj := ⟨(.type "tuple"), none, (.seq ⟨([] : List Value)⟩ 0), ⟨[]⟩⟩
def o_161_989 (P : Params) : Obj := ⟨.none, none, (.fields ⟨([] : List Value)⟩), ⟨[]⟩⟩
def o_161_990 (P : Params) : Obj := ⟨(.type "tuple"), none, (.seq ⟨(([(.str "number" 1554), (.str "prime" 1555), (.str "many" 1556)] : List Value))⟩ 0), ⟨[]⟩⟩
def o_161_991 (P : Params) : Obj := ⟨(.type "tuple"), none, (.seq ⟨([] : List Value)⟩ 0), ⟨[]⟩⟩
def o_161_992 (P : Params) : Obj := ⟨.none, none, (.func ⟨"split_by", "split_by", defArgs (top 137), .stmts (defBody (top 137)), defScope (top 137), 0, [], .none, .none, .none, .none, none, .none, .none, 0⟩), ⟨[]⟩⟩
def o_161_993 (P : Params) : Obj := ⟨(.type "code"), none, (.fields ⟨(([(.str "split_by" 1551), (.str "split_by" 1552), (.str "/claim/cut.py" 1553), (.int (663) 0), (.int (2) 0), (.int (0) 0), (.int (0) 0), (.int (3) 0), (.ref 988), (.bool true), (.int (181) 0), (.ref 989)] : List Value) ++ ([.none, (.ref 990), (.ref 991), (.ref 992), (.int (1557) 0), (.int (663) 0), (.str "/claim/cut.py" 1558)] : List Value))⟩), ⟨[]⟩⟩
def o_161_994 (P : Params) : Obj := ⟨(.type "function"), none, (.func ⟨"split_by", "split_by", defArgs (top 137), .stmts (defBody (top 137)), defScope (top 137), 3, [], .none, .none, .none, (.str "tenwhole.powers" 1509), none, (.ref 993), .none, 0⟩), ⟨[]⟩⟩
def o_161_995 (P : Params) : Obj := ⟨(.type "tuple"), none, (.seq ⟨([] : List Value)⟩ 0), ⟨[]⟩⟩
def o_161_996 (P : Params) : Obj := ⟨.none, none, (.fields ⟨([] : List Value)⟩), ⟨[]⟩⟩
def o_161_997 (P : Params) : Obj := ⟨(.type "tuple"), none, (.seq ⟨(([(.str "number" 1563), (.str "degree" 1564), (.str "low" 1565), (.str "high" 1566), (.str "middle" 1567)] : List Value))⟩ 0), ⟨[]⟩⟩
def o_161_998 (P : Params) : Obj := ⟨(.type "tuple"), none, (.seq ⟨([] : List Value)⟩ 0), ⟨[]⟩⟩
def o_161_999 (P : Params) : Obj := ⟨.none, none, (.func ⟨"exact_root", "exact_root", defArgs (top 138), .stmts (defBody (top 138)), defScope (top 138), 0, [], .none, .none, .none, .none, none, .none, .none, 0⟩), ⟨[]⟩⟩
def o_161_1000 (P : Params) : Obj := ⟨(.type "code"), none, (.fields ⟨(([(.str "exact_root" 1560), (.str "exact_root" 1561), (.str "/claim/cut.py" 1562), (.int (668) 0), (.int (2) 0), (.int (0) 0), (.int (0) 0), (.int (3) 0), (.ref 995), (.bool true), (.int (181) 0), (.ref 996)] : List Value) ++ ([.none, (.ref 997), (.ref 998), (.ref 999), (.int (1568) 0), (.int (668) 0), (.str "/claim/cut.py" 1569)] : List Value))⟩), ⟨[]⟩⟩
def o_161_1001 (P : Params) : Obj := ⟨(.type "function"), none, (.func ⟨"exact_root", "exact_root", defArgs (top 138), .stmts (defBody (top 138)), defScope (top 138), 3, [], .none, .none, .none, (.str "tenwhole.powers" 1509), none, (.ref 1000), .none, 0⟩), ⟨[]⟩⟩
def o_161_1002 (P : Params) : Obj := ⟨(.type "tuple"), none, (.seq ⟨([] : List Value)⟩ 0), ⟨[]⟩⟩
def o_161_1003 (P : Params) : Obj := ⟨.none, none, (.fields ⟨([] : List Value)⟩), ⟨[]⟩⟩
def o_161_1004 (P : Params) : Obj := ⟨(.type "tuple"), none, (.seq ⟨(([(.str "b" 1574), (.str "top" 1575), (.str "bottom" 1576), (.str "part" 1577)] : List Value))⟩ 0), ⟨[]⟩⟩
def o_161_1005 (P : Params) : Obj := ⟨(.type "tuple"), none, (.seq ⟨([] : List Value)⟩ 0), ⟨[]⟩⟩
def o_161_1006 (P : Params) : Obj := ⟨.none, none, (.func ⟨"ratio_of", "ratio_of", defArgs (top 139), .stmts (defBody (top 139)), defScope (top 139), 0, [], .none, .none, .none, .none, none, .none, .none, 0⟩), ⟨[]⟩⟩
def o_161_1007 (P : Params) : Obj := ⟨(.type "code"), none, (.fields ⟨(([(.str "ratio_of" 1571), (.str "ratio_of" 1572), (.str "/claim/cut.py" 1573), (.int (681) 0), (.int (1) 0), (.int (0) 0), (.int (0) 0), (.int (3) 0), (.ref 1002), (.bool true), (.int (181) 0), (.ref 1003)] : List Value) ++ ([.none, (.ref 1004), (.ref 1005), (.ref 1006), (.int (1578) 0), (.int (681) 0), (.str "/claim/cut.py" 1579)] : List Value))⟩), ⟨[]⟩⟩
def o_161_1008 (P : Params) : Obj := ⟨(.type "function"), none, (.func ⟨"ratio_of", "ratio_of", defArgs (top 139), .stmts (defBody (top 139)), defScope (top 139), 3, [], .none, .none, .none, (.str "tenwhole.powers" 1509), none, (.ref 1007), .none, 0⟩), ⟨[]⟩⟩
def o_161_1009 (P : Params) : Obj := ⟨(.type "tuple"), none, (.seq ⟨([] : List Value)⟩ 0), ⟨[]⟩⟩
def o_161_1010 (P : Params) : Obj := ⟨.none, none, (.fields ⟨([] : List Value)⟩), ⟨[]⟩⟩
def o_161_1011 (P : Params) : Obj := ⟨(.type "tuple"), none, (.seq ⟨(([(.str "prec" 1584), (.str "a" 1585), (.str "b" 1586), (.str "top" 1587), (.str "bottom" 1588), (.str "twos" 1589), (.str "rest" 1590), (.str "fives" 1591), (.str "root" 1592), (.str "exponent" 1593), (.str "most" 1594), (.str "powers" 1595)] : List Value))⟩ 0), ⟨[]⟩⟩
def o_161_1012 (P : Params) : Obj := ⟨(.type "tuple"), none, (.seq ⟨([] : List Value)⟩ 0), ⟨[]⟩⟩
def o_161_1013 (P : Params) : Obj := ⟨.none, none, (.func ⟨"exact_parts", "exact_parts", defArgs (top 140), .stmts (defBody (top 140)), defScope (top 140), 0, [], .none, .none, .none, .none, none, .none, .none, 0⟩), ⟨[]⟩⟩
def o_161_1014 (P : Params) : Obj := ⟨(.type "code"), none, (.fields ⟨(([(.str "exact_parts" 1581), (.str "exact_parts" 1582), (.str "/claim/cut.py" 1583), (.int (685) 0), (.int (3) 0), (.int (0) 0), (.int (0) 0), (.int (3) 0), (.ref 1009), (.bool true), (.int (181) 0), (.ref 1010)] : List Value) ++ ([.none, (.ref 1011), (.ref 1012), (.ref 1013), (.int (1596) 0), (.int (685) 0), (.str "/claim/cut.py" 1597)] : List Value))⟩), ⟨[]⟩⟩
def o_161_1015 (P : Params) : Obj := ⟨(.type "function"), none, (.func ⟨"exact_parts", "exact_parts", defArgs (top 140), .stmts (defBody (top 140)), defScope (top 140), 3, [], .none, .none, .none, (.str "tenwhole.powers" 1509), none, (.ref 1014), .none, 0⟩), ⟨[]⟩⟩
def o_161_1016 (P : Params) : Obj := ⟨(.type "tuple"), none, (.seq ⟨([] : List Value)⟩ 0), ⟨[]⟩⟩
def o_161_1017 (P : Params) : Obj := ⟨.none, none, (.fields ⟨([] : List Value)⟩), ⟨[]⟩⟩
def o_161_1018 (P : Params) : Obj := ⟨(.type "tuple"), none, (.seq ⟨(([(.str "rules" 1602), (.str "a" 1603), (.str "b" 1604), (.str "sign" 1605), (.str "parts" 1606), (.str "coefficient" 1607), (.str "exponent" 1608), (.str "room" 1609), (.str "found" 1610), (.str "conditions" 1611)] : List Value))⟩ 0), ⟨[]⟩⟩
def o_161_1019 (P : Params) : Obj := ⟨(.type "tuple"), none, (.seq ⟨([] : List Value)⟩ 0), ⟨[]⟩⟩
def o_161_1020 (P : Params) : Obj := ⟨.none, none, (.func ⟨"exact_told", "exact_told", defArgs (top 141), .stmts (defBody (top 141)), defScope (top 141), 0, [], .none, .none, .none, .none, none, .none, .none, 0⟩), ⟨[]⟩⟩
def o_161_1021 (P : Params) : Obj := ⟨(.type "code"), none, (.fields ⟨(([(.str "exact_told" 1599), (.str "exact_told" 1600), (.str "/claim/cut.py" 1601), (.int (700) 0), (.int (5) 0), (.int (0) 0), (.int (0) 0), (.int (3) 0), (.ref 1016), (.bool true), (.int (181) 0), (.ref 1017)] : List Value) ++ ([.none, (.ref 1018), (.ref 1019), (.ref 1020), (.int (1612) 0), (.int (700) 0), (.str "/claim/cut.py" 1613)] : List Value))⟩), ⟨[]⟩⟩
def o_161_1022 (P : Params) : Obj := ⟨(.type "function"), none, (.func ⟨"exact_told", "exact_told", defArgs (top 141), .stmts (defBody (top 141)), defScope (top 141), 3, [], .none, .none, .none, (.str "tenwhole.powers" 1509), none, (.ref 1021), .none, 0⟩), ⟨[]⟩⟩
def o_161_1023 (P : Params) : Obj := ⟨(.type "tuple"), none, (.seq ⟨([] : List Value)⟩ 0), ⟨[]⟩⟩
def o_161_1024 (P : Params) : Obj := ⟨.none, none, (.fields ⟨([] : List Value)⟩), ⟨[]⟩⟩
def o_161_1025 (P : Params) : Obj := ⟨(.type "tuple"), none, (.seq ⟨(([(.str "b" 1618), (.str "low" 1619), (.str "high" 1620), (.str "shift" 1621)] : List Value))⟩ 0), ⟨[]⟩⟩
def o_161_1026 (P : Params) : Obj := ⟨(.type "tuple"), none, (.seq ⟨([] : List Value)⟩ 0), ⟨[]⟩⟩
def o_161_1027 (P : Params) : Obj := ⟨.none, none, (.func ⟨"bounds_times", "bounds_times", defArgs (top 142), .stmts (defBody (top 142)), defScope (top 142), 0, [], .none, .none, .none, .none, none, .none, .none, 0⟩), ⟨[]⟩⟩
def o_161_1028 (P : Params) : Obj := ⟨(.type "code"), none, (.fields ⟨(([(.str "bounds_times" 1615), (.str "bounds_times" 1616), (.str "/claim/cut.py" 1617), (.int (710) 0), (.int (4) 0), (.int (0) 0), (.int (0) 0), (.int (3) 0), (.ref 1023), (.bool true), (.int (181) 0), (.ref 1024)] : List Value) ++ ([.none, (.ref 1025), (.ref 1026), (.ref 1027), (.int (1622) 0), (.int (710) 0), (.str "/claim/cut.py" 1623)] : List Value))⟩), ⟨[]⟩⟩
def o_161_1029 (P : Params) : Obj := ⟨(.type "function"), none, (.func ⟨"bounds_times", "bounds_times", defArgs (top 142), .stmts (defBody (top 142)), defScope (top 142), 3, [], .none, .none, .none, (.str "tenwhole.powers" 1509), none, (.ref 1028), .none, 0⟩), ⟨[]⟩⟩
def o_161_1030 (P : Params) : Obj := ⟨(.type "tuple"), none, (.seq ⟨([] : List Value)⟩ 0), ⟨[]⟩⟩
def o_161_1031 (P : Params) : Obj := ⟨.none, none, (.fields ⟨([] : List Value)⟩), ⟨[]⟩⟩
def o_161_1032 (P : Params) : Obj := ⟨(.type "tuple"), none, (.seq ⟨(([(.str "rules" 1628), (.str "a" 1629), (.str "b" 1630), (.str "sign" 1631), (.str "size" 1632), (.str "is_up" 1633), (.str "parts" 1634), (.str "places" 1635), (.str "found" 1636), (.str "fine" 1637), (.str "low" 1638), (.str "high" 1639)] : List Value))⟩ 0), ⟨[]⟩⟩
def o_161_1033 (P : Params) : Obj := ⟨(.type "tuple"), none, (.seq ⟨([] : List Value)⟩ 0), ⟨[]⟩⟩
def o_161_1034 (P : Params) : Obj := ⟨.none, none, (.func ⟨"power_finite", "power_finite", defArgs (top 143), .stmts (defBody (top 143)), defScope (top 143), 0, [], .none, .none, .none, .none, none, .none, .none, 0⟩), ⟨[]⟩⟩
def o_161_1035 (P : Params) : Obj := ⟨(.type "code"), none, (.fields ⟨(([(.str "power_finite" 1625), (.str "power_finite" 1626), (.str "/claim/cut.py" 1627), (.int (718) 0), (.int (4) 0), (.int (0) 0), (.int (0) 0), (.int (3) 0), (.ref 1030), (.bool true), (.int (181) 0), (.ref 1031)] : List Value) ++ ([.none, (.ref 1032), (.ref 1033), (.ref 1034), (.int (1640) 0), (.int (718) 0), (.str "/claim/cut.py" 1641)] : List Value))⟩), ⟨[]⟩⟩
def o_161_1036 (P : Params) : Obj := ⟨(.type "function"), none, (.func ⟨"power_finite", "power_finite", defArgs (top 143), .stmts (defBody (top 143)), defScope (top 143), 3, [], .none, .none, .none, (.str "tenwhole.powers" 1509), none, (.ref 1035), .none, 0⟩), ⟨[]⟩⟩
def o_161_1037 (P : Params) : Obj := ⟨(.type "tuple"), none, (.seq ⟨([] : List Value)⟩ 0), ⟨[]⟩⟩
def o_161_1038 (P : Params) : Obj := ⟨.none, none, (.fields ⟨([] : List Value)⟩), ⟨[]⟩⟩
def o_161_1039 (P : Params) : Obj := ⟨(.type "tuple"), none, (.seq ⟨(([(.str "rules" 1646), (.str "a" 1647), (.str "b" 1648), (.str "sign" 1649), (.str "least" 1650), (.str "exponent" 1651)] : List Value))⟩ 0), ⟨[]⟩⟩
def o_161_1040 (P : Params) : Obj := ⟨(.type "tuple"), none, (.seq ⟨([] : List Value)⟩ 0), ⟨[]⟩⟩
def o_161_1041 (P : Params) : Obj := ⟨.none, none, (.func ⟨"power_of_one", "power_of_one", defArgs (top 144), .stmts (defBody (top 144)), defScope (top 144), 0, [], .none, .none, .none, .none, none, .none, .none, 0⟩), ⟨[]⟩⟩
def o_161_1042 (P : Params) : Obj := ⟨(.type "code"), none, (.fields ⟨(([(.str "power_of_one" 1643), (.str "power_of_one" 1644), (.str "/claim/cut.py" 1645), (.int (735) 0), (.int (4) 0), (.int (0) 0), (.int (0) 0), (.int (3) 0), (.ref 1037), (.bool true), (.int (181) 0), (.ref 1038)] : List Value) ++ ([.none, (.ref 1039), (.ref 1040), (.ref 1041), (.int (1652) 0), (.int (735) 0), (.str "/claim/cut.py" 1653)] : List Value))⟩), ⟨[]⟩⟩
def o_161_1043 (P : Params) : Obj := ⟨(.type "function"), none, (.func ⟨"power_of_one", "power_of_one", defArgs (top 144), .stmts (defBody (top 144)), defScope (top 144), 3, [], .none, .none, .none, (.str "tenwhole.powers" 1509), none, (.ref 1042), .none, 0⟩), ⟨[]⟩⟩
def o_161_1044 (P : Params) : Obj := ⟨(.type "tuple"), none, (.seq ⟨([] : List Value)⟩ 0), ⟨[]⟩⟩
def o_161_1045 (P : Params) : Obj := ⟨.none, none, (.fields ⟨([] : List Value)⟩), ⟨[]⟩⟩
def o_161_1046 (P : Params) : Obj := ⟨(.type "tuple"), none, (.seq ⟨(([(.str "a" 1658), (.str "b" 1659), (.str "sign" 1660), (.str "is_great" 1661)] : List Value))⟩ 0), ⟨[]⟩⟩
def o_161_1047 (P : Params) : Obj := ⟨(.type "tuple"), none, (.seq ⟨([] : List Value)⟩ 0), ⟨[]⟩⟩
def o_161_1048 (P : Params) : Obj := ⟨.none, none, (.func ⟨"power_of_ends", "power_of_ends", defArgs (top 145), .stmts (defBody (top 145)), defScope (top 145), 0, [], .none, .none, .none, .none, none, .none, .none, 0⟩), ⟨[]⟩⟩
def o_161_1049 (P : Params) : Obj := ⟨(.type "code"), none, (.fields ⟨(([(.str "power_of_ends" 1655), (.str "power_of_ends" 1656), (.str "/claim/cut.py" 1657), (.int (745) 0), (.int (3) 0), (.int (0) 0), (.int (0) 0), (.int (3) 0), (.ref 1044), (.bool true), (.int (181) 0), (.ref 1045)] : List Value) ++ ([.none, (.ref 1046), (.ref 1047), (.ref 1048), (.int (1662) 0), (.int (745) 0), (.str "/claim/cut.py" 1663)] : List Value))⟩), ⟨[]⟩⟩
def o_161_1050 (P : Params) : Obj := ⟨(.type "function"), none, (.func ⟨"power_of_ends", "power_of_ends", defArgs (top 145), .stmts (defBody (top 145)), defScope (top 145), 3, [], .none, .none, .none, (.str "tenwhole.powers" 1509), none, (.ref 1049), .none, 0⟩), ⟨[]⟩⟩
def o_161_1051 (P : Params) : Obj := ⟨(.type "tuple"), none, (.seq ⟨([] : List Value)⟩ 0), ⟨[]⟩⟩
def o_161_1052 (P : Params) : Obj := ⟨.none, none, (.fields ⟨([] : List Value)⟩), ⟨[]⟩⟩
def o_161_1053 (P : Params) : Obj := ⟨(.type "tuple"), none, (.seq ⟨(([(.str "rules" 1668), (.str "a" 1669), (.str "b" 1670), (.str "told" 1671), (.str "sign" 1672), (.str "size" 1673), (.str "order" 1674)] : List Value))⟩ 0), ⟨[]⟩⟩
def o_161_1054 (P : Params) : Obj := ⟨(.type "tuple"), none, (.seq ⟨([] : List Value)⟩ 0), ⟨[]⟩⟩
def o_161_1055 (P : Params) : Obj := ⟨.none, none, (.func ⟨"power", "power", defArgs (top 146), .stmts (defBody (top 146)), defScope (top 146), 0, [], .none, .none, .none, .none, none, .none, .none, 0⟩), ⟨[]⟩⟩
def o_161_1056 (P : Params) : Obj := ⟨(.type "code"), none, (.fields ⟨(([(.str "power" 1665), (.str "power" 1666), (.str "/claim/cut.py" 1667), (.int (748) 0), (.int (3) 0), (.int (0) 0), (.int (0) 0), (.int (3) 0), (.ref 1051), (.bool true), (.int (181) 0), (.ref 1052)] : List Value) ++ ([.none, (.ref 1053), (.ref 1054), (.ref 1055), (.int (1675) 0), (.int (748) 0), (.str "/claim/cut.py" 1676)] : List Value))⟩), ⟨[]⟩⟩
def o_161_1057 (P : Params) : Obj := ⟨(.type "function"), none, (.func ⟨"power", "power", defArgs (top 146), .stmts (defBody (top 146)), defScope (top 146), 3, [], .none, .none, .none, (.str "tenwhole.powers" 1509), none, (.ref 1056), .none, 0⟩), ⟨[]⟩⟩
def o_161_1058 (P : Params) : Obj := ⟨(.type "tuple"), none, (.seq ⟨([] : List Value)⟩ 0), ⟨[]⟩⟩
def o_161_1059 (P : Params) : Obj := ⟨.none, none, (.fields ⟨([] : List Value)⟩), ⟨[]⟩⟩
def o_161_1060 (P : Params) : Obj := ⟨(.type "tuple"), none, (.seq ⟨(([(.str "base" 1681), (.str "many" 1682), (.str "modulus" 1683), (.str "found" 1684)] : List Value))⟩ 0), ⟨[]⟩⟩
def o_161_1061 (P : Params) : Obj := ⟨(.type "tuple"), none, (.seq ⟨([] : List Value)⟩ 0), ⟨[]⟩⟩
def o_161_1062 (P : Params) : Obj := ⟨.none, none, (.func ⟨"modulo_power", "modulo_power", defArgs (top 147), .stmts (defBody (top 147)), defScope (top 147), 0, [], .none, .none, .none, .none, none, .none, .none, 0⟩), ⟨[]⟩⟩
def o_161_1063 (P : Params) : Obj := ⟨(.type "code"), none, (.fields ⟨(([(.str "modulo_power" 1678), (.str "modulo_power" 1679), (.str "/claim/cut.py" 1680), (.int (766) 0), (.int (3) 0), (.int (0) 0), (.int (0) 0), (.int (3) 0), (.ref 1058), (.bool true), (.int (181) 0), (.ref 1059)] : List Value) ++ ([.none, (.ref 1060), (.ref 1061), (.ref 1062), (.int (1685) 0), (.int (766) 0), (.str "/claim/cut.py" 1686)] : List Value))⟩), ⟨[]⟩⟩
def o_161_1064 (P : Params) : Obj := ⟨(.type "function"), none, (.func ⟨"modulo_power", "modulo_power", defArgs (top 147), .stmts (defBody (top 147)), defScope (top 147), 3, [], .none, .none, .none, (.str "tenwhole.powers" 1509), none, (.ref 1063), .none, 0⟩), ⟨[]⟩⟩
def o_161_1065 (P : Params) : Obj := ⟨(.type "tuple"), none, (.seq ⟨([] : List Value)⟩ 0), ⟨[]⟩⟩
def o_161_1066 (P : Params) : Obj := ⟨.none, none, (.fields ⟨([] : List Value)⟩), ⟨[]⟩⟩
def o_161_1067 (P : Params) : Obj := ⟨(.type "tuple"), none, (.seq ⟨(([(.str "rules" 1691), (.str "a" 1692), (.str "b" 1693), (.str "c" 1694), (.str "told" 1695), (.str "modulus" 1696), (.str "base" 1697), (.str "found" 1698), (.str "step" 1699)] : List Value))⟩ 0), ⟨[]⟩⟩
def o_161_1068 (P : Params) : Obj := ⟨(.type "tuple"), none, (.seq ⟨([] : List Value)⟩ 0), ⟨[]⟩⟩
def o_161_1069 (P : Params) : Obj := ⟨.none, none, (.func ⟨"power_modulo", "power_modulo", defArgs (top 148), .stmts (defBody (top 148)), defScope (top 148), 0, [], .none, .none, .none, .none, none, .none, .none, 0⟩), ⟨[]⟩⟩
def o_161_1070 (P : Params) : Obj := ⟨(.type "code"), none, (.fields ⟨(([(.str "power_modulo" 1688), (.str "power_modulo" 1689), (.str "/claim/cut.py" 1690), (.int (774) 0), (.int (4) 0), (.int (0) 0), (.int (0) 0), (.int (3) 0), (.ref 1065), (.bool true), (.int (181) 0), (.ref 1066)] : List Value) ++ ([.none, (.ref 1067), (.ref 1068), (.ref 1069), (.int (1700) 0), (.int (774) 0), (.str "/claim/cut.py" 1701)] : List Value))⟩), ⟨[]⟩⟩
def o_161_1071 (P : Params) : Obj := ⟨(.type "function"), none, (.func ⟨"power_modulo", "power_modulo", defArgs (top 148), .stmts (defBody (top 148)), defScope (top 148), 3, [], .none, .none, .none, (.str "tenwhole.powers" 1509), none, (.ref 1070), .none, 0⟩), ⟨[]⟩⟩
def o_161_1072 (P : Params) : Obj := ⟨(.type "tuple"), none, (.seq ⟨([] : List Value)⟩ 0), ⟨[]⟩⟩
def o_161_1073 (P : Params) : Obj := ⟨.none, none, (.fields ⟨([] : List Value)⟩), ⟨[]⟩⟩
def o_161_1074 (P : Params) : Obj := ⟨(.type "tuple"), none, (.seq ⟨(([(.str "one" 1716), (.str "other" 1717)] : List Value))⟩ 0), ⟨[]⟩⟩
def o_161_1075 (P : Params) : Obj := ⟨(.type "tuple"), none, (.seq ⟨([] : List Value)⟩ 0), ⟨[]⟩⟩
def o_161_1076 (P : Params) : Obj := ⟨.none, none, (.func ⟨"shared_divisor", "shared_divisor", defArgs (top 154), .stmts (defBody (top 154)), defScope (top 154), 0, [], .none, .none, .none, .none, none, .none, .none, 0⟩), ⟨[]⟩⟩
def o_161_1077 (P : Params) : Obj := ⟨(.type "code"), none, (.fields ⟨(([(.str "shared_divisor" 1713), (.str "shared_divisor" 1714), (.str "/claim/cut.py" 1715), (.int (799) 0), (.int (2) 0), (.int (0) 0), (.int (0) 0), (.int (3) 0), (.ref 1072), (.bool true), (.int (181) 0), (.ref 1073)] : List Value) ++ ([.none, (.ref 1074), (.ref 1075), (.ref 1076), (.int (1718) 0), (.int (799) 0), (.str "/claim/cut.py" 1719)] : List Value))⟩), ⟨[]⟩⟩
def o_161_1078 (P : Params) : Obj := ⟨(.type "function"), none, (.func ⟨"shared_divisor", "shared_divisor", defArgs (top 154), .stmts (defBody (top 154)), defScope (top 154), 3, [], .none, .none, .none, (.str "tenwhole.quotients" 1703), none, (.ref 1077), .none, 0⟩), ⟨[]⟩⟩
def o_161_1079 (P : Params) : Obj := ⟨(.type "tuple"), none, (.seq ⟨([] : List Value)⟩ 0), ⟨[]⟩⟩
def o_161_1080 (P : Params) : Obj := ⟨.none, none, (.fields ⟨([] : List Value)⟩), ⟨[]⟩⟩
def o_161_1081 (P : Params) : Obj := ⟨(.type "tuple"), none, (.seq ⟨(([(.str "number" 1724), (.str "factor" 1725), (.str "many" 1726)] : List Value))⟩ 0), ⟨[]⟩⟩
def o_161_1082 (P : Params) : Obj := ⟨(.type "tuple"), none, (.seq ⟨([] : List Value)⟩ 0), ⟨[]⟩⟩
def o_161_1083 (P : Params) : Obj := ⟨.none, none, (.func ⟨"without_factor", "without_factor", defArgs (top 155), .stmts (defBody (top 155)), defScope (top 155), 0, [], .none, .none, .none, .none, none, .none, .none, 0⟩), ⟨[]⟩⟩
def o_161_1084 (P : Params) : Obj := ⟨(.type "code"), none, (.fields ⟨(([(.str "without_factor" 1721), (.str "without_factor" 1722), (.str "/claim/cut.py" 1723), (.int (803) 0), (.int (2) 0), (.int (0) 0), (.int (0) 0), (.int (3) 0), (.ref 1079), (.bool true), (.int (181) 0), (.ref 1080)] : List Value) ++ ([.none, (.ref 1081), (.ref 1082), (.ref 1083), (.int (1727) 0), (.int (803) 0), (.str "/claim/cut.py" 1728)] : List Value))⟩), ⟨[]⟩⟩
def o_161_1085 (P : Params) : Obj := ⟨(.type "function"), none, (.func ⟨"without_factor", "without_factor", defArgs (top 155), .stmts (defBody (top 155)), defScope (top 155), 3, [], .none, .none, .none, (.str "tenwhole.quotients" 1703), none, (.ref 1084), .none, 0⟩), ⟨[]⟩⟩
def o_161_1086 (P : Params) : Obj := ⟨(.type "tuple"), none, (.seq ⟨([] : List Value)⟩ 0), ⟨[]⟩⟩
def o_161_1087 (P : Params) : Obj := ⟨.none, none, (.fields ⟨([] : List Value)⟩), ⟨[]⟩⟩
def o_161_1088 (P : Params) : Obj := ⟨(.type "tuple"), none, (.seq ⟨(([(.str "a" 1733), (.str "b" 1734), (.str "shared" 1735), (.str "left" 1736), (.str "twos" 1737), (.str "fives" 1738), (.str "behind" 1739)] : List Value))⟩ 0), ⟨[]⟩⟩
def o_161_1089 (P : Params) : Obj := ⟨(.type "tuple"), none, (.seq ⟨([] : List Value)⟩ 0), ⟨[]⟩⟩
def o_161_1090 (P : Params) : Obj := ⟨.none, none, (.func ⟨"exact_quotient", "exact_quotient", defArgs (top 156), .stmts (defBody (top 156)), defScope (top 156), 0, [], .none, .none, .none, .none, none, .none, .none, 0⟩), ⟨[]⟩⟩
def o_161_1091 (P : Params) : Obj := ⟨(.type "code"), none, (.fields ⟨(([(.str "exact_quotient" 1730), (.str "exact_quotient" 1731), (.str "/claim/cut.py" 1732), (.int (809) 0), (.int (2) 0), (.int (0) 0), (.int (0) 0), (.int (3) 0), (.ref 1086), (.bool true), (.int (181) 0), (.ref 1087)] : List Value) ++ ([.none, (.ref 1088), (.ref 1089), (.ref 1090), (.int (1740) 0), (.int (809) 0), (.str "/claim/cut.py" 1741)] : List Value))⟩), ⟨[]⟩⟩
def o_161_1092 (P : Params) : Obj := ⟨(.type "function"), none, (.func ⟨"exact_quotient", "exact_quotient", defArgs (top 156), .stmts (defBody (top 156)), defScope (top 156), 3, [], .none, .none, .none, (.str "tenwhole.quotients" 1703), none, (.ref 1091), .none, 0⟩), ⟨[]⟩⟩
def o_161_1093 (P : Params) : Obj := ⟨(.type "tuple"), none, (.seq ⟨([] : List Value)⟩ 0), ⟨[]⟩⟩
def o_161_1094 (P : Params) : Obj := ⟨.none, none, (.fields ⟨([] : List Value)⟩), ⟨[]⟩⟩
def o_161_1095 (P : Params) : Obj := ⟨(.type "tuple"), none, (.seq ⟨(([(.str "a" 1746), (.str "b" 1747), (.str "many" 1748), (.str "shift" 1749), (.str "top" 1750), (.str "bottom" 1751)] : List Value))⟩ 0), ⟨[]⟩⟩
def o_161_1096 (P : Params) : Obj := ⟨(.type "tuple"), none, (.seq ⟨([] : List Value)⟩ 0), ⟨[]⟩⟩
def o_161_1097 (P : Params) : Obj := ⟨.none, none, (.func ⟨"first_digits", "first_digits", defArgs (top 157), .stmts (defBody (top 157)), defScope (top 157), 0, [], .none, .none, .none, .none, none, .none, .none, 0⟩), ⟨[]⟩⟩
def o_161_1098 (P : Params) : Obj := ⟨(.type "code"), none, (.fields ⟨(([(.str "first_digits" 1743), (.str "first_digits" 1744), (.str "/claim/cut.py" 1745), (.int (817) 0), (.int (3) 0), (.int (0) 0), (.int (0) 0), (.int (3) 0), (.ref 1093), (.bool true), (.int (181) 0), (.ref 1094)] : List Value) ++ ([.none, (.ref 1095), (.ref 1096), (.ref 1097), (.int (1752) 0), (.int (817) 0), (.str "/claim/cut.py" 1753)] : List Value))⟩), ⟨[]⟩⟩
def o_161_1099 (P : Params) : Obj := ⟨(.type "function"), none, (.func ⟨"first_digits", "first_digits", defArgs (top 157), .stmts (defBody (top 157)), defScope (top 157), 3, [], .none, .none, .none, (.str "tenwhole.quotients" 1703), none, (.ref 1098), .none, 0⟩), ⟨[]⟩⟩
def o_161_1100 (P : Params) : Obj := ⟨(.type "tuple"), none, (.seq ⟨([] : List Value)⟩ 0), ⟨[]⟩⟩
def o_161_1101 (P : Params) : Obj := ⟨.none, none, (.fields ⟨([] : List Value)⟩), ⟨[]⟩⟩
def o_161_1102 (P : Params) : Obj := ⟨(.type "tuple"), none, (.seq ⟨(([(.str "rules" 1758), (.str "a" 1759), (.str "b" 1760), (.str "sign" 1761), (.str "found" 1762), (.str "digits" 1763), (.str "exponent" 1764)] : List Value))⟩ 0), ⟨[]⟩⟩
def o_161_1103 (P : Params) : Obj := ⟨(.type "tuple"), none, (.seq ⟨([] : List Value)⟩ 0), ⟨[]⟩⟩
def o_161_1104 (P : Params) : Obj := ⟨.none, none, (.func ⟨"quotient_of", "quotient_of", defArgs (top 158), .stmts (defBody (top 158)), defScope (top 158), 0, [], .none, .none, .none, .none, none, .none, .none, 0⟩), ⟨[]⟩⟩
def o_161_1105 (P : Params) : Obj := ⟨(.type "code"), none, (.fields ⟨(([(.str "quotient_of" 1755), (.str "quotient_of" 1756), (.str "/claim/cut.py" 1757), (.int (821) 0), (.int (3) 0), (.int (0) 0), (.int (0) 0), (.int (3) 0), (.ref 1100), (.bool true), (.int (181) 0), (.ref 1101)] : List Value) ++ ([.none, (.ref 1102), (.ref 1103), (.ref 1104), (.int (1765) 0), (.int (821) 0), (.str "/claim/cut.py" 1766)] : List Value))⟩), ⟨[]⟩⟩
def o_161_1106 (P : Params) : Obj := ⟨(.type "function"), none, (.func ⟨"quotient_of", "quotient_of", defArgs (top 158), .stmts (defBody (top 158)), defScope (top 158), 3, [], .none, .none, .none, (.str "tenwhole.quotients" 1703), none, (.ref 1105), .none, 0⟩), ⟨[]⟩⟩
def o_161_1107 (P : Params) : Obj := ⟨(.type "tuple"), none, (.seq ⟨([] : List Value)⟩ 0), ⟨[]⟩⟩
def o_161_1108 (P : Params) : Obj := ⟨.none, none, (.fields ⟨([] : List Value)⟩), ⟨[]⟩⟩
def o_161_1109 (P : Params) : Obj := ⟨(.type "tuple"), none, (.seq ⟨(([(.str "a" 1771), (.str "sign" 1772)] : List Value))⟩ 0), ⟨[]⟩⟩
def o_161_1110 (P : Params) : Obj := ⟨(.type "tuple"), none, (.seq ⟨([] : List Value)⟩ 0), ⟨[]⟩⟩
def o_161_1111 (P : Params) : Obj := ⟨.none, none, (.func ⟨"by_zero", "by_zero", defArgs (top 159), .stmts (defBody (top 159)), defScope (top 159), 0, [], .none, .none, .none, .none, none, .none, .none, 0⟩), ⟨[]⟩⟩
def o_161_1112 (P : Params) : Obj := ⟨(.type "code"), none, (.fields ⟨(([(.str "by_zero" 1768), (.str "by_zero" 1769), (.str "/claim/cut.py" 1770), (.int (828) 0), (.int (2) 0), (.int (0) 0), (.int (0) 0), (.int (3) 0), (.ref 1107), (.bool true), (.int (181) 0), (.ref 1108)] : List Value) ++ ([.none, (.ref 1109), (.ref 1110), (.ref 1111), (.int (1773) 0), (.int (828) 0), (.str "/claim/cut.py" 1774)] : List Value))⟩), ⟨[]⟩⟩
def o_161_1113 (P : Params) : Obj := ⟨(.type "function"), none, (.func ⟨"by_zero", "by_zero", defArgs (top 159), .stmts (defBody (top 159)), defScope (top 159), 3, [], .none, .none, .none, (.str "tenwhole.quotients" 1703), none, (.ref 1112), .none, 0⟩), ⟨[]⟩⟩
def o_161_1114 (P : Params) : Obj := ⟨(.type "tuple"), none, (.seq ⟨([] : List Value)⟩ 0), ⟨[]⟩⟩
def o_161_1115 (P : Params) : Obj := ⟨.none, none, (.fields ⟨([] : List Value)⟩), ⟨[]⟩⟩
def o_161_1116 (P : Params) : Obj := ⟨(.type "tuple"), none, (.seq ⟨(([(.str "rules" 1779), (.str "a" 1780), (.str "b" 1781), (.str "found" 1782), (.str "sign" 1783)] : List Value))⟩ 0), ⟨[]⟩⟩
def o_161_1117 (P : Params) : Obj := ⟨(.type "tuple"), none, (.seq ⟨([] : List Value)⟩ 0), ⟨[]⟩⟩
def o_161_1118 (P : Params) : Obj := ⟨.none, none, (.func ⟨"divide", "divide", defArgs (top 160), .stmts (defBody (top 160)), defScope (top 160), 0, [], .none, .none, .none, .none, none, .none, .none, 0⟩), ⟨[]⟩⟩
def o_161_1119 (P : Params) : Obj := ⟨(.type "code"), none, (.fields ⟨(([(.str "divide" 1776), (.str "divide" 1777), (.str "/claim/cut.py" 1778), (.int (830) 0), (.int (3) 0), (.int (0) 0), (.int (0) 0), (.int (3) 0), (.ref 1114), (.bool true), (.int (181) 0), (.ref 1115)] : List Value) ++ ([.none, (.ref 1116), (.ref 1117), (.ref 1118), (.int (1784) 0), (.int (830) 0), (.str "/claim/cut.py" 1785)] : List Value))⟩), ⟨[]⟩⟩
def o_161_1120 (P : Params) : Obj := ⟨(.type "function"), none, (.func ⟨"divide", "divide", defArgs (top 160), .stmts (defBody (top 160)), defScope (top 160), 3, [], .none, .none, .none, (.str "tenwhole.quotients" 1703), none, (.ref 1119), .none, 0⟩), ⟨[]⟩⟩
def l_161 (P : Params) : List (Nat × Obj) := ([(3, o_161_3 P), (12, o_161_12 P), (820, o_161_820 P), (821, o_161_821 P), (822, o_161_822 P), (823, o_161_823 P), (824, o_161_824 P), (825, o_161_825 P), (826, o_161_826 P), (827, o_161_827 P), (828, o_161_828 P), (829, o_161_829 P), (830, o_161_830 P), (831, o_161_831 P), (832, o_161_832 P), (833, o_161_833 P), (834, o_161_834 P), (835, o_161_835 P), (836, o_161_836 P), (837, o_161_837 P), (838, o_161_838 P), (839, o_161_839 P), (840, o_161_840 P), (841, o_161_841 P), (842, o_161_842 P)] : List (Nat × Obj)) ++ ([(843, o_161_843 P), (844, o_161_844 P), (845, o_161_845 P), (846, o_161_846 P), (847, o_161_847 P), (848, o_161_848 P), (849, o_161_849 P), (850, o_161_850 P), (851, o_161_851 P), (852, o_161_852 P), (853, o_161_853 P), (854, o_161_854 P), (855, o_161_855 P), (856, o_161_856 P), (857, o_161_857 P), (858, o_161_858 P), (859, o_161_859 P), (860, o_161_860 P), (861, o_161_861 P), (862, o_161_862 P), (863, o_161_863 P), (864, o_161_864 P), (865, o_161_865 P), (866, o_161_866 P), (867, o_161_867 P)] : List (Nat × Obj)) ++ ([(868, o_161_868 P), (869, o_161_869 P), (870, o_161_870 P), (871, o_161_871 P), (872, o_161_872 P), (873, o_161_873 P), (874, o_161_874 P), (875, o_161_875 P), (876, o_161_876 P), (877, o_161_877 P), (878, o_161_878 P), (879, o_161_879 P), (880, o_161_880 P), (881, o_161_881 P), (882, o_161_882 P), (883, o_161_883 P), (884, o_161_884 P), (885, o_161_885 P), (886, o_161_886 P), (887, o_161_887 P), (888, o_161_888 P), (889, o_161_889 P), (890, o_161_890 P), (891, o_161_891 P), (892, o_161_892 P)] : List (Nat × Obj)) ++ ([(893, o_161_893 P), (894, o_161_894 P), (895, o_161_895 P), (896, o_161_896 P), (897, o_161_897 P), (898, o_161_898 P), (899, o_161_899 P), (900, o_161_900 P), (901, o_161_901 P), (902, o_161_902 P), (903, o_161_903 P), (904, o_161_904 P), (905, o_161_905 P), (906, o_161_906 P), (907, o_161_907 P), (908, o_161_908 P), (909, o_161_909 P), (910, o_161_910 P), (911, o_161_911 P), (912, o_161_912 P), (913, o_161_913 P), (914, o_161_914 P), (915, o_161_915 P), (916, o_161_916 P), (917, o_161_917 P)] : List (Nat × Obj)) ++ ([(918, o_161_918 P), (919, o_161_919 P), (920, o_161_920 P), (921, o_161_921 P), (922, o_161_922 P), (923, o_161_923 P), (924, o_161_924 P), (925, o_161_925 P), (926, o_161_926 P), (927, o_161_927 P), (928, o_161_928 P), (929, o_161_929 P), (930, o_161_930 P), (931, o_161_931 P), (932, o_161_932 P), (933, o_161_933 P), (934, o_161_934 P), (935, o_161_935 P), (936, o_161_936 P), (937, o_161_937 P), (938, o_161_938 P), (939, o_161_939 P), (940, o_161_940 P), (941, o_161_941 P), (942, o_161_942 P)] : List (Nat × Obj)) ++ ([(943, o_161_943 P), (944, o_161_944 P), (945, o_161_945 P), (946, o_161_946 P), (947, o_161_947 P), (948, o_161_948 P), (949, o_161_949 P), (950, o_161_950 P), (951, o_161_951 P), (952, o_161_952 P), (953, o_161_953 P), (954, o_161_954 P), (955, o_161_955 P), (956, o_161_956 P), (957, o_161_957 P), (958, o_161_958 P), (959, o_161_959 P), (960, o_161_960 P), (961, o_161_961 P), (962, o_161_962 P), (963, o_161_963 P), (964, o_161_964 P), (965, o_161_965 P), (966, o_161_966 P), (967, o_161_967 P)] : List (Nat × Obj)) ++ ([(968, o_161_968 P), (969, o_161_969 P), (970, o_161_970 P), (971, o_161_971 P), (972, o_161_972 P), (973, o_161_973 P), (974, o_161_974 P), (975, o_161_975 P), (976, o_161_976 P), (977, o_161_977 P), (978, o_161_978 P), (979, o_161_979 P), (980, o_161_980 P), (981, o_161_981 P), (982, o_161_982 P), (983, o_161_983 P), (984, o_161_984 P), (985, o_161_985 P), (986, o_161_986 P), (987, o_161_987 P), (988, o_161_988 P), (989, o_161_989 P), (990, o_161_990 P), (991, o_161_991 P), (992, o_161_992 P)] : List (Nat × Obj)) ++ ([(993, o_161_993 P), (994, o_161_994 P), (995, o_161_995 P), (996, o_161_996 P), (997, o_161_997 P), (998, o_161_998 P), (999, o_161_999 P), (1000, o_161_1000 P), (1001, o_161_1001 P), (1002, o_161_1002 P), (1003, o_161_1003 P), (1004, o_161_1004 P), (1005, o_161_1005 P), (1006, o_161_1006 P), (1007, o_161_1007 P), (1008, o_161_1008 P), (1009, o_161_1009 P), (1010, o_161_1010 P), (1011, o_161_1011 P), (1012, o_161_1012 P), (1013, o_161_1013 P), (1014, o_161_1014 P), (1015, o_161_1015 P), (1016, o_161_1016 P), (1017, o_161_1017 P)] : List (Nat × Obj)) ++ ([(1018, o_161_1018 P), (1019, o_161_1019 P), (1020, o_161_1020 P), (1021, o_161_1021 P), (1022, o_161_1022 P), (1023, o_161_1023 P), (1024, o_161_1024 P), (1025, o_161_1025 P), (1026, o_161_1026 P), (1027, o_161_1027 P), (1028, o_161_1028 P), (1029, o_161_1029 P), (1030, o_161_1030 P), (1031, o_161_1031 P), (1032, o_161_1032 P), (1033, o_161_1033 P), (1034, o_161_1034 P), (1035, o_161_1035 P), (1036, o_161_1036 P), (1037, o_161_1037 P), (1038, o_161_1038 P), (1039, o_161_1039 P), (1040, o_161_1040 P), (1041, o_161_1041 P), (1042, o_161_1042 P)] : List (Nat × Obj)) ++ ([(1043, o_161_1043 P), (1044, o_161_1044 P), (1045, o_161_1045 P), (1046, o_161_1046 P), (1047, o_161_1047 P), (1048, o_161_1048 P), (1049, o_161_1049 P), (1050, o_161_1050 P), (1051, o_161_1051 P), (1052, o_161_1052 P), (1053, o_161_1053 P), (1054, o_161_1054 P), (1055, o_161_1055 P), (1056, o_161_1056 P), (1057, o_161_1057 P), (1058, o_161_1058 P), (1059, o_161_1059 P), (1060, o_161_1060 P), (1061, o_161_1061 P), (1062, o_161_1062 P), (1063, o_161_1063 P), (1064, o_161_1064 P), (1065, o_161_1065 P), (1066, o_161_1066 P), (1067, o_161_1067 P)] : List (Nat × Obj)) ++ ([(1068, o_161_1068 P), (1069, o_161_1069 P), (1070, o_161_1070 P), (1071, o_161_1071 P), (1072, o_161_1072 P), (1073, o_161_1073 P), (1074, o_161_1074 P), (1075, o_161_1075 P), (1076, o_161_1076 P), (1077, o_161_1077 P), (1078, o_161_1078 P), (1079, o_161_1079 P), (1080, o_161_1080 P), (1081, o_161_1081 P), (1082, o_161_1082 P), (1083, o_161_1083 P), (1084, o_161_1084 P), (1085, o_161_1085 P), (1086, o_161_1086 P), (1087, o_161_1087 P), (1088, o_161_1088 P), (1089, o_161_1089 P), (1090, o_161_1090 P), (1091, o_161_1091 P), (1092, o_161_1092 P)] : List (Nat × Obj)) ++ ([(1093, o_161_1093 P), (1094, o_161_1094 P), (1095, o_161_1095 P), (1096, o_161_1096 P), (1097, o_161_1097 P), (1098, o_161_1098 P), (1099, o_161_1099 P), (1100, o_161_1100 P), (1101, o_161_1101 P), (1102, o_161_1102 P), (1103, o_161_1103 P), (1104, o_161_1104 P), (1105, o_161_1105 P), (1106, o_161_1106 P), (1107, o_161_1107 P), (1108, o_161_1108 P), (1109, o_161_1109 P), (1110, o_161_1110 P), (1111, o_161_1111 P), (1112, o_161_1112 P), (1113, o_161_1113 P), (1114, o_161_1114 P), (1115, o_161_1115 P), (1116, o_161_1116 P), (1117, o_161_1117 P)] : List (Nat × Obj)) ++ ([(1118, o_161_1118 P), (1119, o_161_1119 P), (1120, o_161_1120 P)] : List (Nat × Obj))
def t_161 (P : Params) : BT := (insAll (l_161 P) (t_107 P)).getD .nil
def S_161 (w : World) (os : OsState) : SharedT := ⟨t_161 w.params, 1121, {}, #[], ⟨0, 0, 0, 0⟩, 1787, os⟩
def o_213_3 (P : Params) : Obj := ⟨(.type "dict"), none, (.dict ⟨(([⟨PyData.keyHash P "__name__", (.str "__name__" 165), (.str "tenwhole.contexts" 2254)⟩, ⟨PyData.keyHash P "__doc__", (.str "__doc__" 166), .none⟩, ⟨PyData.keyHash P "__package__", (.str "__package__" 167), .none⟩, ⟨PyData.keyHash P "__loader__", (.str "__loader__" 168), (.builtin "__main__.__loader__#opaque")⟩, ⟨PyData.keyHash P "__spec__", (.str "__spec__" 169), .none⟩, ⟨PyData.keyHash P "__annotations__", (.str "__annotations__" 170), (.ref 6)⟩, ⟨PyData.keyHash P "__builtins__", (.str "__builtins__" 171), (.ref 4)⟩, ⟨PyData.keyHash P "__file__", (.str "__file__" 173), (.str "/claim/cut.py" 172)⟩, ⟨PyData.keyHash P "__cached__", (.str "__cached__" 174), .none⟩, ⟨PyData.keyHash P "_wall", (.str "_wall" 193), (.ref 21)⟩, ⟨PyData.keyHash P "ORDER", (.str "ORDER" 204), (.ref 22)⟩, ⟨PyData.keyHash P "INVALID", (.str "INVALID" 209), (.ref 23)⟩] : List DictEntry) ++ ([⟨PyData.keyHash P "TenSignal", (.str "TenSignal" 238), (.ref 40)⟩, ⟨PyData.keyHash P "Clamped", (.str "Clamped" 254), (.ref 53)⟩, ⟨PyData.keyHash P "DivisionByZero", (.str "DivisionByZero" 270), (.ref 65)⟩, ⟨PyData.keyHash P "Inexact", (.str "Inexact" 286), (.ref 77)⟩, ⟨PyData.keyHash P "InvalidOperation", (.str "InvalidOperation" 302), (.ref 89)⟩, ⟨PyData.keyHash P "Overflow", (.str "Overflow" 318), (.ref 101)⟩, ⟨PyData.keyHash P "Rounded", (.str "Rounded" 334), (.ref 113)⟩, ⟨PyData.keyHash P "Subnormal", (.str "Subnormal" 350), (.ref 125)⟩, ⟨PyData.keyHash P "Underflow", (.str "Underflow" 366), (.ref 137)⟩, ⟨PyData.keyHash P "TenError", (.str "TenError" 384), (.ref 149)⟩, ⟨PyData.keyHash P "NoOperand", (.str "NoOperand" 409), (.ref 169)⟩, ⟨PyData.keyHash P "NoDecimal", (.str "NoDecimal" 434), (.ref 188)⟩] : List DictEntry) ++ ([⟨PyData.keyHash P "NoContext", (.str "NoContext" 459), (.ref 207)⟩, ⟨PyData.keyHash P "NoName", (.str "NoName" 484), (.ref 226)⟩, ⟨PyData.keyHash P "raise_signal", (.str "raise_signal" 492), (.ref 235)⟩, ⟨PyData.keyHash P "signal_of", (.str "signal_of" 499), (.ref 242)⟩, ⟨PyData.keyHash P "STEP", (.str "STEP" 503), (.int (64) 502)⟩, ⟨PyData.keyHash P "GREAT_decimals", (.str "GREAT_decimals" 507), (.int (10000000000000000000000000000000000000000000000000000000000000000) 506)⟩, ⟨PyData.keyHash P "INFINITY", (.str "INFINITY" 509), (.str "F" 508)⟩, ⟨PyData.keyHash P "QUIET", (.str "QUIET" 511), (.str "n" 510)⟩, ⟨PyData.keyHash P "SIGNALING", (.str "SIGNALING" 513), (.str "N" 512)⟩, ⟨PyData.keyHash P "Decimal", (.str "Decimal" 569), (.ref 280)⟩, ⟨PyData.keyHash P "is_integer", (.str "is_integer" 576), (.ref 291)⟩, ⟨PyData.keyHash P "is_exponent", (.str "is_exponent" 583), (.ref 298)⟩] : List DictEntry) ++ ([⟨PyData.keyHash P "is_finite", (.str "is_finite" 590), (.ref 305)⟩, ⟨PyData.keyHash P "is_infinite", (.str "is_infinite" 597), (.ref 312)⟩, ⟨PyData.keyHash P "is_nan", (.str "is_nan" 604), (.ref 319)⟩, ⟨PyData.keyHash P "is_signaling", (.str "is_signaling" 611), (.ref 326)⟩, ⟨PyData.keyHash P "is_zero", (.str "is_zero" 618), (.ref 333)⟩, ⟨PyData.keyHash P "decimal_of", (.str "decimal_of" 625), (.ref 340)⟩, ⟨PyData.keyHash P "infinity", (.str "infinity" 632), (.ref 347)⟩, ⟨PyData.keyHash P "plain_nan", (.str "plain_nan" 638), (.ref 354)⟩, ⟨PyData.keyHash P "tens", (.str "tens" 647), (.ref 361)⟩, ⟨PyData.keyHash P "count_digits", (.str "count_digits" 655), (.ref 368)⟩, ⟨PyData.keyHash P "digits_of", (.str "digits_of" 661), (.ref 373)⟩, ⟨PyData.keyHash P "order_of", (.str "order_of" 671), (.ref 380)⟩] : List DictEntry) ++ ([⟨PyData.keyHash P "side_of", (.str "side_of" 679), (.ref 387)⟩, ⟨PyData.keyHash P "size_order", (.str "size_order" 690), (.ref 394)⟩, ⟨PyData.keyHash P "Rules", (.str "Rules" 751), (.ref 432)⟩, ⟨PyData.keyHash P "goes_up", (.str "goes_up" 761), (.ref 443)⟩, ⟨PyData.keyHash P "rounded_parts", (.str "rounded_parts" 776), (.ref 450)⟩, ⟨PyData.keyHash P "overflow", (.str "overflow" 786), (.ref 457)⟩, ⟨PyData.keyHash P "finish_zero", (.str "finish_zero" 797), (.ref 464)⟩, ⟨PyData.keyHash P "finish_cut", (.str "finish_cut" 812), (.ref 471)⟩, ⟨PyData.keyHash P "finish_parts", (.str "finish_parts" 826), (.ref 478)⟩, ⟨PyData.keyHash P "finish_endless", (.str "finish_endless" 836), (.ref 485)⟩, ⟨PyData.keyHash P "kept_digits", (.str "kept_digits" 845), (.ref 492)⟩, ⟨PyData.keyHash P "finish", (.str "finish" 853), (.ref 499)⟩] : List DictEntry) ++ ([⟨PyData.keyHash P "nan_of", (.str "nan_of" 859), (.ref 504)⟩, ⟨PyData.keyHash P "invalid", (.str "invalid" 866), (.ref 511)⟩, ⟨PyData.keyHash P "sign_of_both", (.str "sign_of_both" 874), (.ref 518)⟩, ⟨PyData.keyHash P "INVALID_WORD", (.str "INVALID_WORD" 878), (.str "InvalidOperation" 877)⟩, ⟨PyData.keyHash P "as_decimal", (.str "as_decimal" 885), (.ref 525)⟩, ⟨PyData.keyHash P "unsigned", (.str "unsigned" 892), (.ref 532)⟩, ⟨PyData.keyHash P "sided", (.str "sided" 900), (.ref 539)⟩, ⟨PyData.keyHash P "compare", (.str "compare" 910), (.ref 546)⟩, ⟨PyData.keyHash P "compare_signal", (.str "compare_signal" 920), (.ref 553)⟩, ⟨PyData.keyHash P "rank", (.str "rank" 927), (.ref 560)⟩, ⟨PyData.keyHash P "total_size", (.str "total_size" 936), (.ref 567)⟩, ⟨PyData.keyHash P "total_order", (.str "total_order" 944), (.ref 574)⟩] : List DictEntry) ++ ([⟨PyData.keyHash P "compare_total", (.str "compare_total" 953), (.ref 581)⟩, ⟨PyData.keyHash P "compare_total_mag", (.str "compare_total_mag" 962), (.ref 588)⟩, ⟨PyData.keyHash P "equal", (.str "equal" 971), (.ref 595)⟩, ⟨PyData.keyHash P "less", (.str "less" 980), (.ref 602)⟩, ⟨PyData.keyHash P "at_most", (.str "at_most" 989), (.ref 609)⟩, ⟨PyData.keyHash P "is_quiet", (.str "is_quiet" 996), (.ref 616)⟩, ⟨PyData.keyHash P "picked", (.str "picked" 1009), (.ref 623)⟩, ⟨PyData.keyHash P "size_by", (.str "size_by" 1017), (.ref 630)⟩, ⟨PyData.keyHash P "greater_of", (.str "greater_of" 1026), (.ref 637)⟩, ⟨PyData.keyHash P "lesser_of", (.str "lesser_of" 1035), (.ref 644)⟩, ⟨PyData.keyHash P "greater_mag", (.str "greater_mag" 1044), (.ref 651)⟩, ⟨PyData.keyHash P "lesser_mag", (.str "lesser_mag" 1053), (.ref 658)⟩] : List DictEntry) ++ ([⟨PyData.keyHash P "is_low", (.str "is_low" 1061), (.ref 665)⟩, ⟨PyData.keyHash P "is_subnormal", (.str "is_subnormal" 1069), (.ref 672)⟩, ⟨PyData.keyHash P "is_normal", (.str "is_normal" 1077), (.ref 679)⟩, ⟨PyData.keyHash P "number_class", (.str "number_class" 1086), (.ref 686)⟩, ⟨PyData.keyHash P "with_sign", (.str "with_sign" 1096), (.ref 1279)⟩, ⟨PyData.keyHash P "with_sign_copies", (.str "with_sign_copies" 1097), (.ref 693)⟩, ⟨PyData.keyHash P "answer_to", (.str "answer_to" 1105), (.ref 700)⟩, ⟨PyData.keyHash P "copy_of", (.str "copy_of" 1113), (.ref 707)⟩, ⟨PyData.keyHash P "greatest", (.str "greatest" 1123), (.ref 714)⟩, ⟨PyData.keyHash P "stepped", (.str "stepped" 1134), (.ref 721)⟩, ⟨PyData.keyHash P "neighbour", (.str "neighbour" 1146), (.ref 728)⟩, ⟨PyData.keyHash P "next_plus", (.str "next_plus" 1155), (.ref 735)⟩] : List DictEntry) ++ ([⟨PyData.keyHash P "next_minus", (.str "next_minus" 1164), (.ref 742)⟩, ⟨PyData.keyHash P "moved_by", (.str "moved_by" 1172), (.ref 749)⟩, ⟨PyData.keyHash P "next_toward", (.str "next_toward" 1184), (.ref 756)⟩, ⟨PyData.keyHash P "logb", (.str "logb" 1193), (.ref 763)⟩, ⟨PyData.keyHash P "is_step", (.str "is_step" 1201), (.ref 770)⟩, ⟨PyData.keyHash P "signed", (.str "signed" 1208), (.ref 777)⟩, ⟨PyData.keyHash P "scaleb", (.str "scaleb" 1218), (.ref 784)⟩, ⟨PyData.keyHash P "PLAIN_places", (.str "PLAIN_places" 1222), (.str "InvalidOperation" 1221)⟩, ⟨PyData.keyHash P "placed", (.str "placed" 1234), (.ref 791)⟩, ⟨PyData.keyHash P "quantize", (.str "quantize" 1249), (.ref 798)⟩, ⟨PyData.keyHash P "same_quantum", (.str "same_quantum" 1258), (.ref 805)⟩, ⟨PyData.keyHash P "to_integral_exact", (.str "to_integral_exact" 1269), (.ref 812)⟩] : List DictEntry) ++ ([⟨PyData.keyHash P "to_integral_value", (.str "to_integral_value" 1278), (.ref 819)⟩, ⟨PyData.keyHash P "normalize", (.str "normalize" 1292), (.ref 826)⟩, ⟨PyData.keyHash P "GUARD", (.str "GUARD" 1296), (.int (12) 1295)⟩, ⟨PyData.keyHash P "DEEP", (.str "DEEP" 1298), (.int (24) 1297)⟩, ⟨PyData.keyHash P "GREAT_roots", (.str "GREAT_roots" 1300), (.int (19) 1299)⟩, ⟨PyData.keyHash P "unity", (.str "unity" 1306), (.ref 833)⟩, ⟨PyData.keyHash P "root_floor", (.str "root_floor" 1315), (.ref 840)⟩, ⟨PyData.keyHash P "sqrt", (.str "sqrt" 1330), (.ref 847)⟩, ⟨PyData.keyHash P "odd_sum", (.str "odd_sum" 1341), (.ref 854)⟩, ⟨PyData.keyHash P "ten_log", (.str "ten_log" 1349), (.ref 861)⟩, ⟨PyData.keyHash P "log_bounds", (.str "log_bounds" 1370), (.ref 868)⟩, ⟨PyData.keyHash P "exp_sum", (.str "exp_sum" 1382), (.ref 875)⟩] : List DictEntry) ++ ([⟨PyData.keyHash P "exp_bounds", (.str "exp_bounds" 1398), (.ref 882)⟩, ⟨PyData.keyHash P "told_digits", (.str "told_digits" 1410), (.ref 889)⟩, ⟨PyData.keyHash P "far_told", (.str "far_told" 1419), (.ref 896)⟩, ⟨PyData.keyHash P "near_one", (.str "near_one" 1428), (.ref 903)⟩, ⟨PyData.keyHash P "floor_scaled", (.str "floor_scaled" 1438), (.ref 910)⟩, ⟨PyData.keyHash P "exp", (.str "exp" 1451), (.ref 917)⟩, ⟨PyData.keyHash P "log_size", (.str "log_size" 1459), (.ref 924)⟩, ⟨PyData.keyHash P "turned_bounds", (.str "turned_bounds" 1467), (.ref 931)⟩, ⟨PyData.keyHash P "log_special", (.str "log_special" 1476), (.ref 938)⟩, ⟨PyData.keyHash P "ln", (.str "ln" 1490), (.ref 945)⟩, ⟨PyData.keyHash P "log10", (.str "log10" 1508), (.ref 952)⟩, ⟨PyData.keyHash P "MOST_DEGREE", (.str "MOST_DEGREE" 1512), (.int (400) 1511)⟩] : List DictEntry) ++ ([⟨PyData.keyHash P "is_whole", (.str "is_whole" 1519), (.ref 959)⟩, ⟨PyData.keyHash P "whole_of", (.str "whole_of" 1526), (.ref 966)⟩, ⟨PyData.keyHash P "is_odd", (.str "is_odd" 1533), (.ref 973)⟩, ⟨PyData.keyHash P "raised", (.str "raised" 1542), (.ref 980)⟩, ⟨PyData.keyHash P "common", (.str "common" 1550), (.ref 987)⟩, ⟨PyData.keyHash P "split_by", (.str "split_by" 1559), (.ref 994)⟩, ⟨PyData.keyHash P "exact_root", (.str "exact_root" 1570), (.ref 1001)⟩, ⟨PyData.keyHash P "ratio_of", (.str "ratio_of" 1580), (.ref 1008)⟩, ⟨PyData.keyHash P "exact_parts", (.str "exact_parts" 1598), (.ref 1015)⟩, ⟨PyData.keyHash P "exact_told", (.str "exact_told" 1614), (.ref 1022)⟩, ⟨PyData.keyHash P "bounds_times", (.str "bounds_times" 1624), (.ref 1029)⟩, ⟨PyData.keyHash P "power_finite", (.str "power_finite" 1642), (.ref 1036)⟩] : List DictEntry) ++ ([⟨PyData.keyHash P "power_of_one", (.str "power_of_one" 1654), (.ref 1043)⟩, ⟨PyData.keyHash P "power_of_ends", (.str "power_of_ends" 1664), (.ref 1050)⟩, ⟨PyData.keyHash P "power", (.str "power" 1677), (.ref 1057)⟩, ⟨PyData.keyHash P "modulo_power", (.str "modulo_power" 1687), (.ref 1064)⟩, ⟨PyData.keyHash P "power_modulo", (.str "power_modulo" 1702), (.ref 1071)⟩, ⟨PyData.keyHash P "PLAIN_quotients", (.str "PLAIN_quotients" 1706), (.str "InvalidOperation" 1705)⟩, ⟨PyData.keyHash P "UNDEFINED", (.str "UNDEFINED" 1708), (.str "DivisionUndefined" 1707)⟩, ⟨PyData.keyHash P "IMPOSSIBLE", (.str "IMPOSSIBLE" 1710), (.str "DivisionImpossible" 1709)⟩, ⟨PyData.keyHash P "BY_ZERO", (.str "BY_ZERO" 1712), (.str "DivisionByZero" 1711)⟩, ⟨PyData.keyHash P "shared_divisor", (.str "shared_divisor" 1720), (.ref 1078)⟩, ⟨PyData.keyHash P "without_factor", (.str "without_factor" 1729), (.ref 1085)⟩, ⟨PyData.keyHash P "exact_quotient", (.str "exact_quotient" 1742), (.ref 1092)⟩] : List DictEntry) ++ ([⟨PyData.keyHash P "first_digits", (.str "first_digits" 1754), (.ref 1099)⟩, ⟨PyData.keyHash P "quotient_of", (.str "quotient_of" 1767), (.ref 1106)⟩, ⟨PyData.keyHash P "by_zero", (.str "by_zero" 1775), (.ref 1113)⟩, ⟨PyData.keyHash P "divide", (.str "divide" 1786), (.ref 1120)⟩, ⟨PyData.keyHash P "whole_parts", (.str "whole_parts" 1800), (.ref 1127)⟩, ⟨PyData.keyHash P "divide_int", (.str "divide_int" 1812), (.ref 1134)⟩, ⟨PyData.keyHash P "no_remainder", (.str "no_remainder" 1822), (.ref 1141)⟩, ⟨PyData.keyHash P "remainder", (.str "remainder" 1833), (.ref 1148)⟩, ⟨PyData.keyHash P "both_parts", (.str "both_parts" 1846), (.ref 1155)⟩, ⟨PyData.keyHash P "remainder_near", (.str "remainder_near" 1861), (.ref 1162)⟩, ⟨PyData.keyHash P "last_digits", (.str "last_digits" 1871), (.ref 1169)⟩, ⟨PyData.keyHash P "without_last", (.str "without_last" 1879), (.ref 1176)⟩] : List DictEntry) ++ ([⟨PyData.keyHash P "with_noughts", (.str "with_noughts" 1887), (.ref 1183)⟩, ⟨PyData.keyHash P "early", (.str "early" 1897), (.ref 1190)⟩, ⟨PyData.keyHash P "shift", (.str "shift" 1909), (.ref 1197)⟩, ⟨PyData.keyHash P "rotate", (.str "rotate" 1923), (.ref 1204)⟩, ⟨PyData.keyHash P "bits_of", (.str "bits_of" 1932), (.ref 1211)⟩, ⟨PyData.keyHash P "joined", (.str "joined" 1941), (.ref 1218)⟩, ⟨PyData.keyHash P "combined", (.str "combined" 1947), (.ref 1223)⟩, ⟨PyData.keyHash P "both", (.str "both" 1955), (.ref 1230)⟩, ⟨PyData.keyHash P "either", (.str "either" 1963), (.ref 1237)⟩, ⟨PyData.keyHash P "unlike", (.str "unlike" 1971), (.ref 1244)⟩, ⟨PyData.keyHash P "logical_and", (.str "logical_and" 1980), (.ref 1251)⟩, ⟨PyData.keyHash P "logical_or", (.str "logical_or" 1989), (.ref 1258)⟩] : List DictEntry) ++ ([⟨PyData.keyHash P "logical_xor", (.str "logical_xor" 1998), (.ref 1265)⟩, ⟨PyData.keyHash P "logical_invert", (.str "logical_invert" 2007), (.ref 1272)⟩, ⟨PyData.keyHash P "SPARE", (.str "SPARE" 2011), (.int (3) 2010)⟩, ⟨PyData.keyHash P "with_sign_sums", (.str "with_sign_sums" 2021), (.ref 1279)⟩, ⟨PyData.keyHash P "plus", (.str "plus" 2030), (.ref 1286)⟩, ⟨PyData.keyHash P "minus", (.str "minus" 2039), (.ref 1293)⟩, ⟨PyData.keyHash P "absolute", (.str "absolute" 2047), (.ref 1300)⟩, ⟨PyData.keyHash P "worth", (.str "worth" 2054), (.ref 1307)⟩, ⟨PyData.keyHash P "sum_parts", (.str "sum_parts" 2066), (.ref 1314)⟩, ⟨PyData.keyHash P "added", (.str "added" 2080), (.ref 1321)⟩, ⟨PyData.keyHash P "add", (.str "add" 2090), (.ref 1328)⟩, ⟨PyData.keyHash P "subtract", (.str "subtract" 2100), (.ref 1335)⟩] : List DictEntry) ++ ([⟨PyData.keyHash P "exact_product", (.str "exact_product" 2109), (.ref 1342)⟩, ⟨PyData.keyHash P "multiply", (.str "multiply" 2120), (.ref 1349)⟩, ⟨PyData.keyHash P "fma", (.str "fma" 2134), (.ref 1356)⟩, ⟨PyData.keyHash P "QUESTIONS", (.str "QUESTIONS" 2145), (.ref 1357)⟩, ⟨PyData.keyHash P "COPIES", (.str "COPIES" 2149), (.ref 1358)⟩, ⟨PyData.keyHash P "SINGLE", (.str "SINGLE" 2167), (.ref 1359)⟩, ⟨PyData.keyHash P "DOUBLE", (.str "DOUBLE" 2197), (.ref 1360)⟩, ⟨PyData.keyHash P "is_operation", (.str "is_operation" 2205), (.ref 1367)⟩, ⟨PyData.keyHash P "outcome_of", (.str "outcome_of" 2214), (.ref 1374)⟩, ⟨PyData.keyHash P "with_one", (.str "with_one" 2223), (.ref 1381)⟩, ⟨PyData.keyHash P "with_two", (.str "with_two" 2233), (.ref 1388)⟩, ⟨PyData.keyHash P "first_half", (.str "first_half" 2243), (.ref 1395)⟩] : List DictEntry) ++ ([⟨PyData.keyHash P "second_half", (.str "second_half" 2253), (.ref 1402)⟩, ⟨PyData.keyHash P "MOST", (.str "MOST" 2261), (.int (999999999999999999) 2260)⟩, ⟨PyData.keyHash P "ROUNDINGS", (.str "ROUNDINGS" 2270), (.ref 1403)⟩] : List DictEntry))⟩ 207), ⟨[]⟩⟩
def o_213_12 (P : Params) : Obj := ⟨.none, none, (.fields ⟨(([(.int (1) 0), (.int (0) 0), (.ref 20), (.int (7) 0), (.int (0) 0), (.ref 29), (.int (12) 0), (.int (0) 0), (.ref 49), (.int (14) 0), (.int (0) 0), (.ref 61)] : List Value) ++ ([(.int (16) 0), (.int (0) 0), (.ref 73), (.int (18) 0), (.int (0) 0), (.ref 85), (.int (20) 0), (.int (0) 0), (.ref 97), (.int (22) 0), (.int (0) 0), (.ref 109)] : List Value) ++ ([(.int (24) 0), (.int (0) 0), (.ref 121), (.int (26) 0), (.int (0) 0), (.ref 133), (.int (28) 0), (.int (0) 0), (.ref 145), (.int (30) 0), (.int (0) 0), (.ref 158)] : List Value) ++ ([(.int (35) 0), (.int (0) 0), (.ref 177), (.int (40) 0), (.int (0) 0), (.ref 196), (.int (45) 0), (.int (0) 0), (.ref 215), (.int (50) 0), (.int (0) 0), (.ref 234)] : List Value) ++ ([(.int (66) 0), (.int (0) 0), (.ref 241), (.int (74) 0), (.int (0) 0), (.ref 248), (.int (101) 0), (.int (0) 0), (.ref 290), (.int (103) 0), (.int (0) 0), (.ref 297)] : List Value) ++ ([(.int (105) 0), (.int (0) 0), (.ref 304), (.int (107) 0), (.int (0) 0), (.ref 311), (.int (109) 0), (.int (0) 0), (.ref 318), (.int (111) 0), (.int (0) 0), (.ref 325)] : List Value) ++ ([(.int (113) 0), (.int (0) 0), (.ref 332), (.int (115) 0), (.int (0) 0), (.ref 339), (.int (121) 0), (.int (0) 0), (.ref 346), (.int (123) 0), (.int (0) 0), (.ref 353)] : List Value) ++ ([(.int (125) 0), (.int (0) 0), (.ref 360), (.int (132) 0), (.int (0) 0), (.ref 367), (.int (138) 0), (.int (0) 0), (.ref 372), (.int (145) 0), (.int (0) 0), (.ref 379)] : List Value) ++ ([(.int (154) 0), (.int (0) 0), (.ref 386), (.int (157) 0), (.int (0) 0), (.ref 393), (.int (165) 0), (.int (0) 0), (.ref 400), (.int (182) 0), (.int (0) 0), (.ref 442)] : List Value) ++ ([(.int (188) 0), (.int (0) 0), (.ref 449), (.int (198) 0), (.int (0) 0), (.ref 456), (.int (204) 0), (.int (0) 0), (.ref 463), (.int (208) 0), (.int (0) 0), (.ref 470)] : List Value) ++ ([(.int (219) 0), (.int (0) 0), (.ref 477), (.int (233) 0), (.int (0) 0), (.ref 484), (.int (235) 0), (.int (0) 0), (.ref 491), (.int (238) 0), (.int (0) 0), (.ref 498)] : List Value) ++ ([(.int (244) 0), (.int (0) 0), (.ref 503), (.int (252) 0), (.int (0) 0), (.ref 510), (.int (254) 0), (.int (0) 0), (.ref 517), (.int (258) 0), (.int (0) 0), (.ref 524)] : List Value) ++ ([(.int (260) 0), (.int (0) 0), (.ref 531), (.int (262) 0), (.int (0) 0), (.ref 538), (.int (264) 0), (.int (0) 0), (.ref 545), (.int (267) 0), (.int (0) 0), (.ref 552)] : List Value) ++ ([(.int (272) 0), (.int (0) 0), (.ref 559), (.int (276) 0), (.int (0) 0), (.ref 566), (.int (285) 0), (.int (0) 0), (.ref 573), (.int (289) 0), (.int (0) 0), (.ref 580)] : List Value) ++ ([(.int (291) 0), (.int (0) 0), (.ref 587), (.int (293) 0), (.int (0) 0), (.ref 594), (.int (297) 0), (.int (0) 0), (.ref 601), (.int (301) 0), (.int (0) 0), (.ref 608)] : List Value) ++ ([(.int (305) 0), (.int (0) 0), (.ref 615), (.int (307) 0), (.int (0) 0), (.ref 622), (.int (319) 0), (.int (0) 0), (.ref 629), (.int (321) 0), (.int (0) 0), (.ref 636)] : List Value) ++ ([(.int (323) 0), (.int (0) 0), (.ref 643), (.int (325) 0), (.int (0) 0), (.ref 650), (.int (327) 0), (.int (0) 0), (.ref 657), (.int (329) 0), (.int (0) 0), (.ref 664)] : List Value) ++ ([(.int (331) 0), (.int (0) 0), (.ref 671), (.int (333) 0), (.int (0) 0), (.ref 678), (.int (335) 0), (.int (0) 0), (.ref 685), (.int (346) 0), (.int (0) 0), (.ref 692)] : List Value) ++ ([(.int (349) 0), (.int (0) 0), (.ref 699), (.int (363) 0), (.int (0) 0), (.ref 706), (.int (368) 0), (.int (0) 0), (.ref 713), (.int (370) 0), (.int (0) 0), (.ref 720)] : List Value) ++ ([(.int (380) 0), (.int (0) 0), (.ref 727), (.int (386) 0), (.int (0) 0), (.ref 734), (.int (389) 0), (.int (0) 0), (.ref 741), (.int (392) 0), (.int (0) 0), (.ref 748)] : List Value) ++ ([(.int (398) 0), (.int (0) 0), (.ref 755), (.int (407) 0), (.int (0) 0), (.ref 762), (.int (416) 0), (.int (0) 0), (.ref 769), (.int (418) 0), (.int (0) 0), (.ref 776)] : List Value) ++ ([(.int (420) 0), (.int (0) 0), (.ref 783), (.int (431) 0), (.int (0) 0), (.ref 790), (.int (437) 0), (.int (0) 0), (.ref 797), (.int (455) 0), (.int (0) 0), (.ref 804)] : List Value) ++ ([(.int (459) 0), (.int (0) 0), (.ref 811), (.int (469) 0), (.int (0) 0), (.ref 818), (.int (472) 0), (.int (0) 0), (.ref 825), (.int (490) 0), (.int (0) 0), (.ref 832)] : List Value) ++ ([(.int (492) 0), (.int (0) 0), (.ref 839), (.int (499) 0), (.int (0) 0), (.ref 846), (.int (517) 0), (.int (0) 0), (.ref 853), (.int (523) 0), (.int (0) 0), (.ref 860)] : List Value) ++ ([(.int (526) 0), (.int (0) 0), (.ref 867), (.int (540) 0), (.int (0) 0), (.ref 874), (.int (547) 0), (.int (0) 0), (.ref 881), (.int (555) 0), (.int (0) 0), (.ref 888)] : List Value) ++ ([(.int (561) 0), (.int (0) 0), (.ref 895), (.int (565) 0), (.int (0) 0), (.ref 902), (.int (569) 0), (.int (0) 0), (.ref 909), (.int (572) 0), (.int (0) 0), (.ref 916)] : List Value) ++ ([(.int (592) 0), (.int (0) 0), (.ref 923), (.int (597) 0), (.int (0) 0), (.ref 930), (.int (599) 0), (.int (0) 0), (.ref 937), (.int (608) 0), (.int (0) 0), (.ref 944)] : List Value) ++ ([(.int (622) 0), (.int (0) 0), (.ref 951), (.int (640) 0), (.int (0) 0), (.ref 958), (.int (646) 0), (.int (0) 0), (.ref 965), (.int (650) 0), (.int (0) 0), (.ref 972)] : List Value) ++ ([(.int (652) 0), (.int (0) 0), (.ref 979), (.int (659) 0), (.int (0) 0), (.ref 986), (.int (663) 0), (.int (0) 0), (.ref 993), (.int (668) 0), (.int (0) 0), (.ref 1000)] : List Value) ++ ([(.int (681) 0), (.int (0) 0), (.ref 1007), (.int (685) 0), (.int (0) 0), (.ref 1014), (.int (700) 0), (.int (0) 0), (.ref 1021), (.int (710) 0), (.int (0) 0), (.ref 1028)] : List Value) ++ ([(.int (718) 0), (.int (0) 0), (.ref 1035), (.int (735) 0), (.int (0) 0), (.ref 1042), (.int (745) 0), (.int (0) 0), (.ref 1049), (.int (748) 0), (.int (0) 0), (.ref 1056)] : List Value) ++ ([(.int (766) 0), (.int (0) 0), (.ref 1063), (.int (774) 0), (.int (0) 0), (.ref 1070), (.int (799) 0), (.int (0) 0), (.ref 1077), (.int (803) 0), (.int (0) 0), (.ref 1084)] : List Value) ++ ([(.int (809) 0), (.int (0) 0), (.ref 1091), (.int (817) 0), (.int (0) 0), (.ref 1098), (.int (821) 0), (.int (0) 0), (.ref 1105), (.int (828) 0), (.int (0) 0), (.ref 1112)] : List Value) ++ ([(.int (830) 0), (.int (0) 0), (.ref 1119), (.int (843) 0), (.int (0) 0), (.ref 1126), (.int (855) 0), (.int (0) 0), (.ref 1133), (.int (867) 0), (.int (0) 0), (.ref 1140)] : List Value) ++ ([(.int (878) 0), (.int (0) 0), (.ref 1147), (.int (886) 0), (.int (0) 0), (.ref 1154), (.int (890) 0), (.int (0) 0), (.ref 1161), (.int (908) 0), (.int (0) 0), (.ref 1168)] : List Value) ++ ([(.int (910) 0), (.int (0) 0), (.ref 1175), (.int (912) 0), (.int (0) 0), (.ref 1182), (.int (914) 0), (.int (0) 0), (.ref 1189), (.int (921) 0), (.int (0) 0), (.ref 1196)] : List Value) ++ ([(.int (931) 0), (.int (0) 0), (.ref 1203), (.int (939) 0), (.int (0) 0), (.ref 1210), (.int (944) 0), (.int (0) 0), (.ref 1217), (.int (949) 0), (.int (0) 0), (.ref 1222)] : List Value) ++ ([(.int (956) 0), (.int (0) 0), (.ref 1229), (.int (958) 0), (.int (0) 0), (.ref 1236), (.int (960) 0), (.int (0) 0), (.ref 1243), (.int (962) 0), (.int (0) 0), (.ref 1250)] : List Value) ++ ([(.int (964) 0), (.int (0) 0), (.ref 1257), (.int (966) 0), (.int (0) 0), (.ref 1264), (.int (968) 0), (.int (0) 0), (.ref 1271), (.int (975) 0), (.int (0) 0), (.ref 1278)] : List Value) ++ ([(.int (980) 0), (.int (0) 0), (.ref 1285), (.int (983) 0), (.int (0) 0), (.ref 1292), (.int (986) 0), (.int (0) 0), (.ref 1299), (.int (988) 0), (.int (0) 0), (.ref 1306)] : List Value) ++ ([(.int (990) 0), (.int (0) 0), (.ref 1313), (.int (1001) 0), (.int (0) 0), (.ref 1320), (.int (1012) 0), (.int (0) 0), (.ref 1327), (.int (1015) 0), (.int (0) 0), (.ref 1334)] : List Value) ++ ([(.int (1018) 0), (.int (0) 0), (.ref 1341), (.int (1023) 0), (.int (0) 0), (.ref 1348), (.int (1029) 0), (.int (0) 0), (.ref 1355), (.int (1041) 0), (.int (0) 0), (.ref 1366)] : List Value) ++ ([(.int (1049) 0), (.int (0) 0), (.ref 1373), (.int (1063) 0), (.int (0) 0), (.ref 1380), (.int (1097) 0), (.int (0) 0), (.ref 1387), (.int (1101) 0), (.int (0) 0), (.ref 1394)] : List Value) ++ ([(.int (1133) 0), (.int (0) 0), (.ref 1401)] : List Value))⟩), ⟨[]⟩⟩
def o_213_1121 (P : Params) : Obj := ⟨(.type "tuple"), none, (.seq ⟨([] : List Value)⟩ 0), ⟨[]⟩⟩
def o_213_1122 (P : Params) : Obj := ⟨.none, none, (.fields ⟨([] : List Value)⟩), ⟨[]⟩⟩
def o_213_1123 (P : Params) : Obj := ⟨(.type "tuple"), none, (.seq ⟨(([(.str "rules" 1790), (.str "a" 1791), (.str "b" 1792), (.str "far" 1793), (.str "top" 1794), (.str "bottom" 1795), (.str "whole" 1796), (.str "rest" 1797)] : List Value))⟩ 0), ⟨[]⟩⟩
def o_213_1124 (P : Params) : Obj := ⟨(.type "tuple"), none, (.seq ⟨([] : List Value)⟩ 0), ⟨[]⟩⟩
def o_213_1125 (P : Params) : Obj := ⟨.none, none, (.func ⟨"whole_parts", "whole_parts", defArgs (top 161), .stmts (defBody (top 161)), defScope (top 161), 0, [], .none, .none, .none, .none, none, .none, .none, 0⟩), ⟨[]⟩⟩
def o_213_1126 (P : Params) : Obj := ⟨(.type "code"), none, (.fields ⟨(([(.str "whole_parts" 1787), (.str "whole_parts" 1788), (.str "/claim/cut.py" 1789), (.int (843) 0), (.int (3) 0), (.int (0) 0), (.int (0) 0), (.int (3) 0), (.ref 1121), (.bool true), (.int (181) 0), (.ref 1122)] : List Value) ++ ([.none, (.ref 1123), (.ref 1124), (.ref 1125), (.int (1798) 0), (.int (843) 0), (.str "/claim/cut.py" 1799)] : List Value))⟩), ⟨[]⟩⟩
def o_213_1127 (P : Params) : Obj := ⟨(.type "function"), none, (.func ⟨"whole_parts", "whole_parts", defArgs (top 161), .stmts (defBody (top 161)), defScope (top 161), 3, [], .none, .none, .none, (.str "tenwhole.quotients" 1703), none, (.ref 1126), .none, 0⟩), ⟨[]⟩⟩
def o_213_1128 (P : Params) : Obj := ⟨(.type "tuple"), none, (.seq ⟨([] : List Value)⟩ 0), ⟨[]⟩⟩
def o_213_1129 (P : Params) : Obj := ⟨.none, none, (.fields ⟨([] : List Value)⟩), ⟨[]⟩⟩
def o_213_1130 (P : Params) : Obj := ⟨(.type "tuple"), none, (.seq ⟨(([(.str "rules" 1804), (.str "a" 1805), (.str "b" 1806), (.str "found" 1807), (.str "sign" 1808), (.str "parts" 1809)] : List Value))⟩ 0), ⟨[]⟩⟩
def o_213_1131 (P : Params) : Obj := ⟨(.type "tuple"), none, (.seq ⟨([] : List Value)⟩ 0), ⟨[]⟩⟩
def o_213_1132 (P : Params) : Obj := ⟨.none, none, (.func ⟨"divide_int", "divide_int", defArgs (top 162), .stmts (defBody (top 162)), defScope (top 162), 0, [], .none, .none, .none, .none, none, .none, .none, 0⟩), ⟨[]⟩⟩
def o_213_1133 (P : Params) : Obj := ⟨(.type "code"), none, (.fields ⟨(([(.str "divide_int" 1801), (.str "divide_int" 1802), (.str "/claim/cut.py" 1803), (.int (855) 0), (.int (3) 0), (.int (0) 0), (.int (0) 0), (.int (3) 0), (.ref 1128), (.bool true), (.int (181) 0), (.ref 1129)] : List Value) ++ ([.none, (.ref 1130), (.ref 1131), (.ref 1132), (.int (1810) 0), (.int (855) 0), (.str "/claim/cut.py" 1811)] : List Value))⟩), ⟨[]⟩⟩
def o_213_1134 (P : Params) : Obj := ⟨(.type "function"), none, (.func ⟨"divide_int", "divide_int", defArgs (top 162), .stmts (defBody (top 162)), defScope (top 162), 3, [], .none, .none, .none, (.str "tenwhole.quotients" 1703), none, (.ref 1133), .none, 0⟩), ⟨[]⟩⟩
def o_213_1135 (P : Params) : Obj := ⟨(.type "tuple"), none, (.seq ⟨([] : List Value)⟩ 0), ⟨[]⟩⟩
def o_213_1136 (P : Params) : Obj := ⟨.none, none, (.fields ⟨([] : List Value)⟩), ⟨[]⟩⟩
def o_213_1137 (P : Params) : Obj := ⟨(.type "tuple"), none, (.seq ⟨(([(.str "rules" 1816), (.str "a" 1817), (.str "b" 1818), (.str "found" 1819)] : List Value))⟩ 0), ⟨[]⟩⟩
def o_213_1138 (P : Params) : Obj := ⟨(.type "tuple"), none, (.seq ⟨([] : List Value)⟩ 0), ⟨[]⟩⟩
def o_213_1139 (P : Params) : Obj := ⟨.none, none, (.func ⟨"no_remainder", "no_remainder", defArgs (top 163), .stmts (defBody (top 163)), defScope (top 163), 0, [], .none, .none, .none, .none, none, .none, .none, 0⟩), ⟨[]⟩⟩
def o_213_1140 (P : Params) : Obj := ⟨(.type "code"), none, (.fields ⟨(([(.str "no_remainder" 1813), (.str "no_remainder" 1814), (.str "/claim/cut.py" 1815), (.int (867) 0), (.int (3) 0), (.int (0) 0), (.int (0) 0), (.int (3) 0), (.ref 1135), (.bool true), (.int (181) 0), (.ref 1136)] : List Value) ++ ([.none, (.ref 1137), (.ref 1138), (.ref 1139), (.int (1820) 0), (.int (867) 0), (.str "/claim/cut.py" 1821)] : List Value))⟩), ⟨[]⟩⟩
def o_213_1141 (P : Params) : Obj := ⟨(.type "function"), none, (.func ⟨"no_remainder", "no_remainder", defArgs (top 163), .stmts (defBody (top 163)), defScope (top 163), 3, [], .none, .none, .none, (.str "tenwhole.quotients" 1703), none, (.ref 1140), .none, 0⟩), ⟨[]⟩⟩
def o_213_1142 (P : Params) : Obj := ⟨(.type "tuple"), none, (.seq ⟨([] : List Value)⟩ 0), ⟨[]⟩⟩
def o_213_1143 (P : Params) : Obj := ⟨.none, none, (.fields ⟨([] : List Value)⟩), ⟨[]⟩⟩
def o_213_1144 (P : Params) : Obj := ⟨(.type "tuple"), none, (.seq ⟨(([(.str "rules" 1826), (.str "a" 1827), (.str "b" 1828), (.str "found" 1829), (.str "parts" 1830)] : List Value))⟩ 0), ⟨[]⟩⟩
def o_213_1145 (P : Params) : Obj := ⟨(.type "tuple"), none, (.seq ⟨([] : List Value)⟩ 0), ⟨[]⟩⟩
def o_213_1146 (P : Params) : Obj := ⟨.none, none, (.func ⟨"remainder", "remainder", defArgs (top 164), .stmts (defBody (top 164)), defScope (top 164), 0, [], .none, .none, .none, .none, none, .none, .none, 0⟩), ⟨[]⟩⟩
def o_213_1147 (P : Params) : Obj := ⟨(.type "code"), none, (.fields ⟨(([(.str "remainder" 1823), (.str "remainder" 1824), (.str "/claim/cut.py" 1825), (.int (878) 0), (.int (3) 0), (.int (0) 0), (.int (0) 0), (.int (3) 0), (.ref 1142), (.bool true), (.int (181) 0), (.ref 1143)] : List Value) ++ ([.none, (.ref 1144), (.ref 1145), (.ref 1146), (.int (1831) 0), (.int (878) 0), (.str "/claim/cut.py" 1832)] : List Value))⟩), ⟨[]⟩⟩
def o_213_1148 (P : Params) : Obj := ⟨(.type "function"), none, (.func ⟨"remainder", "remainder", defArgs (top 164), .stmts (defBody (top 164)), defScope (top 164), 3, [], .none, .none, .none, (.str "tenwhole.quotients" 1703), none, (.ref 1147), .none, 0⟩), ⟨[]⟩⟩
def o_213_1149 (P : Params) : Obj := ⟨(.type "tuple"), none, (.seq ⟨([] : List Value)⟩ 0), ⟨[]⟩⟩
def o_213_1150 (P : Params) : Obj := ⟨.none, none, (.fields ⟨([] : List Value)⟩), ⟨[]⟩⟩
def o_213_1151 (P : Params) : Obj := ⟨(.type "tuple"), none, (.seq ⟨(([(.str "rules" 1837), (.str "a" 1838), (.str "b" 1839), (.str "whole" 1840), (.str "conditions" 1841), (.str "rest" 1842), (.str "others" 1843)] : List Value))⟩ 0), ⟨[]⟩⟩
def o_213_1152 (P : Params) : Obj := ⟨(.type "tuple"), none, (.seq ⟨([] : List Value)⟩ 0), ⟨[]⟩⟩
def o_213_1153 (P : Params) : Obj := ⟨.none, none, (.func ⟨"both_parts", "both_parts", defArgs (top 165), .stmts (defBody (top 165)), defScope (top 165), 0, [], .none, .none, .none, .none, none, .none, .none, 0⟩), ⟨[]⟩⟩
def o_213_1154 (P : Params) : Obj := ⟨(.type "code"), none, (.fields ⟨(([(.str "both_parts" 1834), (.str "both_parts" 1835), (.str "/claim/cut.py" 1836), (.int (886) 0), (.int (3) 0), (.int (0) 0), (.int (0) 0), (.int (3) 0), (.ref 1149), (.bool true), (.int (181) 0), (.ref 1150)] : List Value) ++ ([.none, (.ref 1151), (.ref 1152), (.ref 1153), (.int (1844) 0), (.int (886) 0), (.str "/claim/cut.py" 1845)] : List Value))⟩), ⟨[]⟩⟩
def o_213_1155 (P : Params) : Obj := ⟨(.type "function"), none, (.func ⟨"both_parts", "both_parts", defArgs (top 165), .stmts (defBody (top 165)), defScope (top 165), 3, [], .none, .none, .none, (.str "tenwhole.quotients" 1703), none, (.ref 1154), .none, 0⟩), ⟨[]⟩⟩
def o_213_1156 (P : Params) : Obj := ⟨(.type "tuple"), none, (.seq ⟨([] : List Value)⟩ 0), ⟨[]⟩⟩
def o_213_1157 (P : Params) : Obj := ⟨.none, none, (.fields ⟨([] : List Value)⟩), ⟨[]⟩⟩
def o_213_1158 (P : Params) : Obj := ⟨(.type "tuple"), none, (.seq ⟨(([(.str "rules" 1850), (.str "a" 1851), (.str "b" 1852), (.str "found" 1853), (.str "parts" 1854), (.str "whole" 1855), (.str "rest" 1856), (.str "exponent" 1857), (.str "bottom" 1858)] : List Value))⟩ 0), ⟨[]⟩⟩
def o_213_1159 (P : Params) : Obj := ⟨(.type "tuple"), none, (.seq ⟨([] : List Value)⟩ 0), ⟨[]⟩⟩
def o_213_1160 (P : Params) : Obj := ⟨.none, none, (.func ⟨"remainder_near", "remainder_near", defArgs (top 166), .stmts (defBody (top 166)), defScope (top 166), 0, [], .none, .none, .none, .none, none, .none, .none, 0⟩), ⟨[]⟩⟩
def o_213_1161 (P : Params) : Obj := ⟨(.type "code"), none, (.fields ⟨(([(.str "remainder_near" 1847), (.str "remainder_near" 1848), (.str "/claim/cut.py" 1849), (.int (890) 0), (.int (3) 0), (.int (0) 0), (.int (0) 0), (.int (3) 0), (.ref 1156), (.bool true), (.int (181) 0), (.ref 1157)] : List Value) ++ ([.none, (.ref 1158), (.ref 1159), (.ref 1160), (.int (1859) 0), (.int (890) 0), (.str "/claim/cut.py" 1860)] : List Value))⟩), ⟨[]⟩⟩
def o_213_1162 (P : Params) : Obj := ⟨(.type "function"), none, (.func ⟨"remainder_near", "remainder_near", defArgs (top 166), .stmts (defBody (top 166)), defScope (top 166), 3, [], .none, .none, .none, (.str "tenwhole.quotients" 1703), none, (.ref 1161), .none, 0⟩), ⟨[]⟩⟩
def o_213_1163 (P : Params) : Obj := ⟨(.type "tuple"), none, (.seq ⟨([] : List Value)⟩ 0), ⟨[]⟩⟩
def o_213_1164 (P : Params) : Obj := ⟨.none, none, (.fields ⟨([] : List Value)⟩), ⟨[]⟩⟩
def o_213_1165 (P : Params) : Obj := ⟨(.type "tuple"), none, (.seq ⟨(([(.str "number" 1867), (.str "many" 1868)] : List Value))⟩ 0), ⟨[]⟩⟩
def o_213_1166 (P : Params) : Obj := ⟨(.type "tuple"), none, (.seq ⟨([] : List Value)⟩ 0), ⟨[]⟩⟩
def o_213_1167 (P : Params) : Obj := ⟨.none, none, (.func ⟨"last_digits", "last_digits", defArgs (top 168), .stmts (defBody (top 168)), defScope (top 168), 0, [], .none, .none, .none, .none, none, .none, .none, 0⟩), ⟨[]⟩⟩
def o_213_1168 (P : Params) : Obj := ⟨(.type "code"), none, (.fields ⟨(([(.str "last_digits" 1864), (.str "last_digits" 1865), (.str "/claim/cut.py" 1866), (.int (908) 0), (.int (2) 0), (.int (0) 0), (.int (0) 0), (.int (3) 0), (.ref 1163), (.bool true), (.int (181) 0), (.ref 1164)] : List Value) ++ ([.none, (.ref 1165), (.ref 1166), (.ref 1167), (.int (1869) 0), (.int (908) 0), (.str "/claim/cut.py" 1870)] : List Value))⟩), ⟨[]⟩⟩
def o_213_1169 (P : Params) : Obj := ⟨(.type "function"), none, (.func ⟨"last_digits", "last_digits", defArgs (top 168), .stmts (defBody (top 168)), defScope (top 168), 3, [], .none, .none, .none, (.str "tenwhole.shifts" 1862), none, (.ref 1168), .none, 0⟩), ⟨[]⟩⟩
def o_213_1170 (P : Params) : Obj := ⟨(.type "tuple"), none, (.seq ⟨([] : List Value)⟩ 0), ⟨[]⟩⟩
def o_213_1171 (P : Params) : Obj := ⟨.none, none, (.fields ⟨([] : List Value)⟩), ⟨[]⟩⟩
def o_213_1172 (P : Params) : Obj := ⟨(.type "tuple"), none, (.seq ⟨(([(.str "number" 1875), (.str "many" 1876)] : List Value))⟩ 0), ⟨[]⟩⟩
def o_213_1173 (P : Params) : Obj := ⟨(.type "tuple"), none, (.seq ⟨([] : List Value)⟩ 0), ⟨[]⟩⟩
def o_213_1174 (P : Params) : Obj := ⟨.none, none, (.func ⟨"without_last", "without_last", defArgs (top 169), .stmts (defBody (top 169)), defScope (top 169), 0, [], .none, .none, .none, .none, none, .none, .none, 0⟩), ⟨[]⟩⟩
def o_213_1175 (P : Params) : Obj := ⟨(.type "code"), none, (.fields ⟨(([(.str "without_last" 1872), (.str "without_last" 1873), (.str "/claim/cut.py" 1874), (.int (910) 0), (.int (2) 0), (.int (0) 0), (.int (0) 0), (.int (3) 0), (.ref 1170), (.bool true), (.int (181) 0), (.ref 1171)] : List Value) ++ ([.none, (.ref 1172), (.ref 1173), (.ref 1174), (.int (1877) 0), (.int (910) 0), (.str "/claim/cut.py" 1878)] : List Value))⟩), ⟨[]⟩⟩
def o_213_1176 (P : Params) : Obj := ⟨(.type "function"), none, (.func ⟨"without_last", "without_last", defArgs (top 169), .stmts (defBody (top 169)), defScope (top 169), 3, [], .none, .none, .none, (.str "tenwhole.shifts" 1862), none, (.ref 1175), .none, 0⟩), ⟨[]⟩⟩
def o_213_1177 (P : Params) : Obj := ⟨(.type "tuple"), none, (.seq ⟨([] : List Value)⟩ 0), ⟨[]⟩⟩
def o_213_1178 (P : Params) : Obj := ⟨.none, none, (.fields ⟨([] : List Value)⟩), ⟨[]⟩⟩
def o_213_1179 (P : Params) : Obj := ⟨(.type "tuple"), none, (.seq ⟨(([(.str "number" 1883), (.str "many" 1884)] : List Value))⟩ 0), ⟨[]⟩⟩
def o_213_1180 (P : Params) : Obj := ⟨(.type "tuple"), none, (.seq ⟨([] : List Value)⟩ 0), ⟨[]⟩⟩
def o_213_1181 (P : Params) : Obj := ⟨.none, none, (.func ⟨"with_noughts", "with_noughts", defArgs (top 170), .stmts (defBody (top 170)), defScope (top 170), 0, [], .none, .none, .none, .none, none, .none, .none, 0⟩), ⟨[]⟩⟩
def o_213_1182 (P : Params) : Obj := ⟨(.type "code"), none, (.fields ⟨(([(.str "with_noughts" 1880), (.str "with_noughts" 1881), (.str "/claim/cut.py" 1882), (.int (912) 0), (.int (2) 0), (.int (0) 0), (.int (0) 0), (.int (3) 0), (.ref 1177), (.bool true), (.int (181) 0), (.ref 1178)] : List Value) ++ ([.none, (.ref 1179), (.ref 1180), (.ref 1181), (.int (1885) 0), (.int (912) 0), (.str "/claim/cut.py" 1886)] : List Value))⟩), ⟨[]⟩⟩
def o_213_1183 (P : Params) : Obj := ⟨(.type "function"), none, (.func ⟨"with_noughts", "with_noughts", defArgs (top 170), .stmts (defBody (top 170)), defScope (top 170), 3, [], .none, .none, .none, (.str "tenwhole.shifts" 1862), none, (.ref 1182), .none, 0⟩), ⟨[]⟩⟩
def o_213_1184 (P : Params) : Obj := ⟨(.type "tuple"), none, (.seq ⟨([] : List Value)⟩ 0), ⟨[]⟩⟩
def o_213_1185 (P : Params) : Obj := ⟨.none, none, (.fields ⟨([] : List Value)⟩), ⟨[]⟩⟩
def o_213_1186 (P : Params) : Obj := ⟨(.type "tuple"), none, (.seq ⟨(([(.str "rules" 1891), (.str "a" 1892), (.str "b" 1893), (.str "found" 1894)] : List Value))⟩ 0), ⟨[]⟩⟩
def o_213_1187 (P : Params) : Obj := ⟨(.type "tuple"), none, (.seq ⟨([] : List Value)⟩ 0), ⟨[]⟩⟩
def o_213_1188 (P : Params) : Obj := ⟨.none, none, (.func ⟨"early", "early", defArgs (top 171), .stmts (defBody (top 171)), defScope (top 171), 0, [], .none, .none, .none, .none, none, .none, .none, 0⟩), ⟨[]⟩⟩
def o_213_1189 (P : Params) : Obj := ⟨(.type "code"), none, (.fields ⟨(([(.str "early" 1888), (.str "early" 1889), (.str "/claim/cut.py" 1890), (.int (914) 0), (.int (3) 0), (.int (0) 0), (.int (0) 0), (.int (3) 0), (.ref 1184), (.bool true), (.int (181) 0), (.ref 1185)] : List Value) ++ ([.none, (.ref 1186), (.ref 1187), (.ref 1188), (.int (1895) 0), (.int (914) 0), (.str "/claim/cut.py" 1896)] : List Value))⟩), ⟨[]⟩⟩
def o_213_1190 (P : Params) : Obj := ⟨(.type "function"), none, (.func ⟨"early", "early", defArgs (top 171), .stmts (defBody (top 171)), defScope (top 171), 3, [], .none, .none, .none, (.str "tenwhole.shifts" 1862), none, (.ref 1189), .none, 0⟩), ⟨[]⟩⟩
def o_213_1191 (P : Params) : Obj := ⟨(.type "tuple"), none, (.seq ⟨([] : List Value)⟩ 0), ⟨[]⟩⟩
def o_213_1192 (P : Params) : Obj := ⟨.none, none, (.fields ⟨([] : List Value)⟩), ⟨[]⟩⟩
def o_213_1193 (P : Params) : Obj := ⟨(.type "tuple"), none, (.seq ⟨(([(.str "rules" 1901), (.str "a" 1902), (.str "b" 1903), (.str "found" 1904), (.str "many" 1905), (.str "kept" 1906)] : List Value))⟩ 0), ⟨[]⟩⟩
def o_213_1194 (P : Params) : Obj := ⟨(.type "tuple"), none, (.seq ⟨([] : List Value)⟩ 0), ⟨[]⟩⟩
def o_213_1195 (P : Params) : Obj := ⟨.none, none, (.func ⟨"shift", "shift", defArgs (top 172), .stmts (defBody (top 172)), defScope (top 172), 0, [], .none, .none, .none, .none, none, .none, .none, 0⟩), ⟨[]⟩⟩
def o_213_1196 (P : Params) : Obj := ⟨(.type "code"), none, (.fields ⟨(([(.str "shift" 1898), (.str "shift" 1899), (.str "/claim/cut.py" 1900), (.int (921) 0), (.int (3) 0), (.int (0) 0), (.int (0) 0), (.int (3) 0), (.ref 1191), (.bool true), (.int (181) 0), (.ref 1192)] : List Value) ++ ([.none, (.ref 1193), (.ref 1194), (.ref 1195), (.int (1907) 0), (.int (921) 0), (.str "/claim/cut.py" 1908)] : List Value))⟩), ⟨[]⟩⟩
def o_213_1197 (P : Params) : Obj := ⟨(.type "function"), none, (.func ⟨"shift", "shift", defArgs (top 172), .stmts (defBody (top 172)), defScope (top 172), 3, [], .none, .none, .none, (.str "tenwhole.shifts" 1862), none, (.ref 1196), .none, 0⟩), ⟨[]⟩⟩
def o_213_1198 (P : Params) : Obj := ⟨(.type "tuple"), none, (.seq ⟨([] : List Value)⟩ 0), ⟨[]⟩⟩
def o_213_1199 (P : Params) : Obj := ⟨.none, none, (.fields ⟨([] : List Value)⟩), ⟨[]⟩⟩
def o_213_1200 (P : Params) : Obj := ⟨(.type "tuple"), none, (.seq ⟨(([(.str "rules" 1913), (.str "a" 1914), (.str "b" 1915), (.str "found" 1916), (.str "many" 1917), (.str "kept" 1918), (.str "ahead" 1919), (.str "behind" 1920)] : List Value))⟩ 0), ⟨[]⟩⟩
def o_213_1201 (P : Params) : Obj := ⟨(.type "tuple"), none, (.seq ⟨([] : List Value)⟩ 0), ⟨[]⟩⟩
def o_213_1202 (P : Params) : Obj := ⟨.none, none, (.func ⟨"rotate", "rotate", defArgs (top 173), .stmts (defBody (top 173)), defScope (top 173), 0, [], .none, .none, .none, .none, none, .none, .none, 0⟩), ⟨[]⟩⟩
def o_213_1203 (P : Params) : Obj := ⟨(.type "code"), none, (.fields ⟨(([(.str "rotate" 1910), (.str "rotate" 1911), (.str "/claim/cut.py" 1912), (.int (931) 0), (.int (3) 0), (.int (0) 0), (.int (0) 0), (.int (3) 0), (.ref 1198), (.bool true), (.int (181) 0), (.ref 1199)] : List Value) ++ ([.none, (.ref 1200), (.ref 1201), (.ref 1202), (.int (1921) 0), (.int (931) 0), (.str "/claim/cut.py" 1922)] : List Value))⟩), ⟨[]⟩⟩
def o_213_1204 (P : Params) : Obj := ⟨(.type "function"), none, (.func ⟨"rotate", "rotate", defArgs (top 173), .stmts (defBody (top 173)), defScope (top 173), 3, [], .none, .none, .none, (.str "tenwhole.shifts" 1862), none, (.ref 1203), .none, 0⟩), ⟨[]⟩⟩
def o_213_1205 (P : Params) : Obj := ⟨(.type "tuple"), none, (.seq ⟨([] : List Value)⟩ 0), ⟨[]⟩⟩
def o_213_1206 (P : Params) : Obj := ⟨.none, none, (.fields ⟨([] : List Value)⟩), ⟨[]⟩⟩
def o_213_1207 (P : Params) : Obj := ⟨(.type "tuple"), none, (.seq ⟨(([(.str "rules" 1927), (.str "a" 1928), (.str "digits" 1929)] : List Value))⟩ 0), ⟨[]⟩⟩
def o_213_1208 (P : Params) : Obj := ⟨(.type "tuple"), none, (.seq ⟨([] : List Value)⟩ 0), ⟨[]⟩⟩
def o_213_1209 (P : Params) : Obj := ⟨.none, none, (.func ⟨"bits_of", "bits_of", defArgs (top 174), .stmts (defBody (top 174)), defScope (top 174), 0, [], .none, .none, .none, .none, none, .none, .none, 0⟩), ⟨[]⟩⟩
def o_213_1210 (P : Params) : Obj := ⟨(.type "code"), none, (.fields ⟨(([(.str "bits_of" 1924), (.str "bits_of" 1925), (.str "/claim/cut.py" 1926), (.int (939) 0), (.int (2) 0), (.int (0) 0), (.int (0) 0), (.int (3) 0), (.ref 1205), (.bool true), (.int (181) 0), (.ref 1206)] : List Value) ++ ([.none, (.ref 1207), (.ref 1208), (.ref 1209), (.int (1930) 0), (.int (939) 0), (.str "/claim/cut.py" 1931)] : List Value))⟩), ⟨[]⟩⟩
def o_213_1211 (P : Params) : Obj := ⟨(.type "function"), none, (.func ⟨"bits_of", "bits_of", defArgs (top 174), .stmts (defBody (top 174)), defScope (top 174), 3, [], .none, .none, .none, (.str "tenwhole.shifts" 1862), none, (.ref 1210), .none, 0⟩), ⟨[]⟩⟩
def o_213_1212 (P : Params) : Obj := ⟨(.type "tuple"), none, (.seq ⟨([] : List Value)⟩ 0), ⟨[]⟩⟩
def o_213_1213 (P : Params) : Obj := ⟨.none, none, (.fields ⟨([] : List Value)⟩), ⟨[]⟩⟩
def o_213_1214 (P : Params) : Obj := ⟨(.type "tuple"), none, (.seq ⟨(([(.str "digits" 1936), (.str "found" 1937), (.str "digit" 1938)] : List Value))⟩ 0), ⟨[]⟩⟩
def o_213_1215 (P : Params) : Obj := ⟨(.type "tuple"), none, (.seq ⟨([] : List Value)⟩ 0), ⟨[]⟩⟩
def o_213_1216 (P : Params) : Obj := ⟨.none, none, (.func ⟨"joined", "joined", defArgs (top 175), .stmts (defBody (top 175)), defScope (top 175), 0, [], .none, .none, .none, .none, none, .none, .none, 0⟩), ⟨[]⟩⟩
def o_213_1217 (P : Params) : Obj := ⟨(.type "code"), none, (.fields ⟨(([(.str "joined" 1933), (.str "joined" 1934), (.str "/claim/cut.py" 1935), (.int (944) 0), (.int (1) 0), (.int (0) 0), (.int (0) 0), (.int (3) 0), (.ref 1212), (.bool true), (.int (181) 0), (.ref 1213)] : List Value) ++ ([.none, (.ref 1214), (.ref 1215), (.ref 1216), (.int (1939) 0), (.int (944) 0), (.str "/claim/cut.py" 1940)] : List Value))⟩), ⟨[]⟩⟩
def o_213_1218 (P : Params) : Obj := ⟨(.type "function"), none, (.func ⟨"joined", "joined", defArgs (top 175), .stmts (defBody (top 175)), defScope (top 175), 3, [], .none, .none, .none, (.str "tenwhole.shifts" 1862), none, (.ref 1217), .none, 0⟩), ⟨[]⟩⟩
def o_213_1219 (P : Params) : Obj := ⟨(.type "tuple"), none, (.seq ⟨([] : List Value)⟩ 0), ⟨[]⟩⟩
def o_213_1220 (P : Params) : Obj := ⟨.none, none, (.fields ⟨([] : List Value)⟩), ⟨[]⟩⟩
def o_213_1221 (P : Params) : Obj := ⟨.none, none, (.func ⟨"combined", "combined", defArgs (top 176), .stmts (defBody (top 176)), defScope (top 176), 0, [], .none, .none, .none, .none, none, .none, .none, 0⟩), ⟨[]⟩⟩
def o_213_1222 (P : Params) : Obj := ⟨(.type "code"), none, (.fields ⟨(([(.str "combined" 1942), (.str "combined" 1943), (.str "/claim/cut.py" 1944), (.int (949) 0), (.int (4) 0), (.int (0) 0), (.int (0) 0), (.int (3) 0), (.ref 1219), (.bool true), (.int (181) 0), (.ref 1220)] : List Value) ++ ([.none, .none, .none, (.ref 1221), (.int (1945) 0), (.int (949) 0), (.str "/claim/cut.py" 1946)] : List Value))⟩), ⟨[]⟩⟩
def o_213_1223 (P : Params) : Obj := ⟨(.type "function"), none, (.func ⟨"combined", "combined", defArgs (top 176), .stmts (defBody (top 176)), defScope (top 176), 3, [], .none, .none, .none, (.str "tenwhole.shifts" 1862), none, (.ref 1222), .none, 0⟩), ⟨[]⟩⟩
def o_213_1224 (P : Params) : Obj := ⟨(.type "tuple"), none, (.seq ⟨([] : List Value)⟩ 0), ⟨[]⟩⟩
def o_213_1225 (P : Params) : Obj := ⟨.none, none, (.fields ⟨([] : List Value)⟩), ⟨[]⟩⟩
def o_213_1226 (P : Params) : Obj := ⟨(.type "tuple"), none, (.seq ⟨(([(.str "one" 1951), (.str "other" 1952)] : List Value))⟩ 0), ⟨[]⟩⟩
def o_213_1227 (P : Params) : Obj := ⟨(.type "tuple"), none, (.seq ⟨([] : List Value)⟩ 0), ⟨[]⟩⟩
def o_213_1228 (P : Params) : Obj := ⟨.none, none, (.func ⟨"both", "both", defArgs (top 177), .stmts (defBody (top 177)), defScope (top 177), 0, [], .none, .none, .none, .none, none, .none, .none, 0⟩), ⟨[]⟩⟩
def o_213_1229 (P : Params) : Obj := ⟨(.type "code"), none, (.fields ⟨(([(.str "both" 1948), (.str "both" 1949), (.str "/claim/cut.py" 1950), (.int (956) 0), (.int (2) 0), (.int (0) 0), (.int (0) 0), (.int (3) 0), (.ref 1224), (.bool true), (.int (181) 0), (.ref 1225)] : List Value) ++ ([.none, (.ref 1226), (.ref 1227), (.ref 1228), (.int (1953) 0), (.int (956) 0), (.str "/claim/cut.py" 1954)] : List Value))⟩), ⟨[]⟩⟩
def o_213_1230 (P : Params) : Obj := ⟨(.type "function"), none, (.func ⟨"both", "both", defArgs (top 177), .stmts (defBody (top 177)), defScope (top 177), 3, [], .none, .none, .none, (.str "tenwhole.shifts" 1862), none, (.ref 1229), .none, 0⟩), ⟨[]⟩⟩
def o_213_1231 (P : Params) : Obj := ⟨(.type "tuple"), none, (.seq ⟨([] : List Value)⟩ 0), ⟨[]⟩⟩
def o_213_1232 (P : Params) : Obj := ⟨.none, none, (.fields ⟨([] : List Value)⟩), ⟨[]⟩⟩
def o_213_1233 (P : Params) : Obj := ⟨(.type "tuple"), none, (.seq ⟨(([(.str "one" 1959), (.str "other" 1960)] : List Value))⟩ 0), ⟨[]⟩⟩
def o_213_1234 (P : Params) : Obj := ⟨(.type "tuple"), none, (.seq ⟨([] : List Value)⟩ 0), ⟨[]⟩⟩
def o_213_1235 (P : Params) : Obj := ⟨.none, none, (.func ⟨"either", "either", defArgs (top 178), .stmts (defBody (top 178)), defScope (top 178), 0, [], .none, .none, .none, .none, none, .none, .none, 0⟩), ⟨[]⟩⟩
def o_213_1236 (P : Params) : Obj := ⟨(.type "code"), none, (.fields ⟨(([(.str "either" 1956), (.str "either" 1957), (.str "/claim/cut.py" 1958), (.int (958) 0), (.int (2) 0), (.int (0) 0), (.int (0) 0), (.int (3) 0), (.ref 1231), (.bool true), (.int (181) 0), (.ref 1232)] : List Value) ++ ([.none, (.ref 1233), (.ref 1234), (.ref 1235), (.int (1961) 0), (.int (958) 0), (.str "/claim/cut.py" 1962)] : List Value))⟩), ⟨[]⟩⟩
def o_213_1237 (P : Params) : Obj := ⟨(.type "function"), none, (.func ⟨"either", "either", defArgs (top 178), .stmts (defBody (top 178)), defScope (top 178), 3, [], .none, .none, .none, (.str "tenwhole.shifts" 1862), none, (.ref 1236), .none, 0⟩), ⟨[]⟩⟩
def o_213_1238 (P : Params) : Obj := ⟨(.type "tuple"), none, (.seq ⟨([] : List Value)⟩ 0), ⟨[]⟩⟩
def o_213_1239 (P : Params) : Obj := ⟨.none, none, (.fields ⟨([] : List Value)⟩), ⟨[]⟩⟩
def o_213_1240 (P : Params) : Obj := ⟨(.type "tuple"), none, (.seq ⟨(([(.str "one" 1967), (.str "other" 1968)] : List Value))⟩ 0), ⟨[]⟩⟩
def o_213_1241 (P : Params) : Obj := ⟨(.type "tuple"), none, (.seq ⟨([] : List Value)⟩ 0), ⟨[]⟩⟩
def o_213_1242 (P : Params) : Obj := ⟨.none, none, (.func ⟨"unlike", "unlike", defArgs (top 179), .stmts (defBody (top 179)), defScope (top 179), 0, [], .none, .none, .none, .none, none, .none, .none, 0⟩), ⟨[]⟩⟩
def o_213_1243 (P : Params) : Obj := ⟨(.type "code"), none, (.fields ⟨(([(.str "unlike" 1964), (.str "unlike" 1965), (.str "/claim/cut.py" 1966), (.int (960) 0), (.int (2) 0), (.int (0) 0), (.int (0) 0), (.int (3) 0), (.ref 1238), (.bool true), (.int (181) 0), (.ref 1239)] : List Value) ++ ([.none, (.ref 1240), (.ref 1241), (.ref 1242), (.int (1969) 0), (.int (960) 0), (.str "/claim/cut.py" 1970)] : List Value))⟩), ⟨[]⟩⟩
def o_213_1244 (P : Params) : Obj := ⟨(.type "function"), none, (.func ⟨"unlike", "unlike", defArgs (top 179), .stmts (defBody (top 179)), defScope (top 179), 3, [], .none, .none, .none, (.str "tenwhole.shifts" 1862), none, (.ref 1243), .none, 0⟩), ⟨[]⟩⟩
def o_213_1245 (P : Params) : Obj := ⟨(.type "tuple"), none, (.seq ⟨([] : List Value)⟩ 0), ⟨[]⟩⟩
def o_213_1246 (P : Params) : Obj := ⟨.none, none, (.fields ⟨([] : List Value)⟩), ⟨[]⟩⟩
def o_213_1247 (P : Params) : Obj := ⟨(.type "tuple"), none, (.seq ⟨(([(.str "rules" 1975), (.str "a" 1976), (.str "b" 1977)] : List Value))⟩ 0), ⟨[]⟩⟩
def o_213_1248 (P : Params) : Obj := ⟨(.type "tuple"), none, (.seq ⟨([] : List Value)⟩ 0), ⟨[]⟩⟩
def o_213_1249 (P : Params) : Obj := ⟨.none, none, (.func ⟨"logical_and", "logical_and", defArgs (top 180), .stmts (defBody (top 180)), defScope (top 180), 0, [], .none, .none, .none, .none, none, .none, .none, 0⟩), ⟨[]⟩⟩
def o_213_1250 (P : Params) : Obj := ⟨(.type "code"), none, (.fields ⟨(([(.str "logical_and" 1972), (.str "logical_and" 1973), (.str "/claim/cut.py" 1974), (.int (962) 0), (.int (3) 0), (.int (0) 0), (.int (0) 0), (.int (3) 0), (.ref 1245), (.bool true), (.int (181) 0), (.ref 1246)] : List Value) ++ ([.none, (.ref 1247), (.ref 1248), (.ref 1249), (.int (1978) 0), (.int (962) 0), (.str "/claim/cut.py" 1979)] : List Value))⟩), ⟨[]⟩⟩
def o_213_1251 (P : Params) : Obj := ⟨(.type "function"), none, (.func ⟨"logical_and", "logical_and", defArgs (top 180), .stmts (defBody (top 180)), defScope (top 180), 3, [], .none, .none, .none, (.str "tenwhole.shifts" 1862), none, (.ref 1250), .none, 0⟩), ⟨[]⟩⟩
def o_213_1252 (P : Params) : Obj := ⟨(.type "tuple"), none, (.seq ⟨([] : List Value)⟩ 0), ⟨[]⟩⟩
def o_213_1253 (P : Params) : Obj := ⟨.none, none, (.fields ⟨([] : List Value)⟩), ⟨[]⟩⟩
def o_213_1254 (P : Params) : Obj := ⟨(.type "tuple"), none, (.seq ⟨(([(.str "rules" 1984), (.str "a" 1985), (.str "b" 1986)] : List Value))⟩ 0), ⟨[]⟩⟩
def o_213_1255 (P : Params) : Obj := ⟨(.type "tuple"), none, (.seq ⟨([] : List Value)⟩ 0), ⟨[]⟩⟩
def o_213_1256 (P : Params) : Obj := ⟨.none, none, (.func ⟨"logical_or", "logical_or", defArgs (top 181), .stmts (defBody (top 181)), defScope (top 181), 0, [], .none, .none, .none, .none, none, .none, .none, 0⟩), ⟨[]⟩⟩
def o_213_1257 (P : Params) : Obj := ⟨(.type "code"), none, (.fields ⟨(([(.str "logical_or" 1981), (.str "logical_or" 1982), (.str "/claim/cut.py" 1983), (.int (964) 0), (.int (3) 0), (.int (0) 0), (.int (0) 0), (.int (3) 0), (.ref 1252), (.bool true), (.int (181) 0), (.ref 1253)] : List Value) ++ ([.none, (.ref 1254), (.ref 1255), (.ref 1256), (.int (1987) 0), (.int (964) 0), (.str "/claim/cut.py" 1988)] : List Value))⟩), ⟨[]⟩⟩
def o_213_1258 (P : Params) : Obj := ⟨(.type "function"), none, (.func ⟨"logical_or", "logical_or", defArgs (top 181), .stmts (defBody (top 181)), defScope (top 181), 3, [], .none, .none, .none, (.str "tenwhole.shifts" 1862), none, (.ref 1257), .none, 0⟩), ⟨[]⟩⟩
def o_213_1259 (P : Params) : Obj := ⟨(.type "tuple"), none, (.seq ⟨([] : List Value)⟩ 0), ⟨[]⟩⟩
def o_213_1260 (P : Params) : Obj := ⟨.none, none, (.fields ⟨([] : List Value)⟩), ⟨[]⟩⟩
def o_213_1261 (P : Params) : Obj := ⟨(.type "tuple"), none, (.seq ⟨(([(.str "rules" 1993), (.str "a" 1994), (.str "b" 1995)] : List Value))⟩ 0), ⟨[]⟩⟩
def o_213_1262 (P : Params) : Obj := ⟨(.type "tuple"), none, (.seq ⟨([] : List Value)⟩ 0), ⟨[]⟩⟩
def o_213_1263 (P : Params) : Obj := ⟨.none, none, (.func ⟨"logical_xor", "logical_xor", defArgs (top 182), .stmts (defBody (top 182)), defScope (top 182), 0, [], .none, .none, .none, .none, none, .none, .none, 0⟩), ⟨[]⟩⟩
def o_213_1264 (P : Params) : Obj := ⟨(.type "code"), none, (.fields ⟨(([(.str "logical_xor" 1990), (.str "logical_xor" 1991), (.str "/claim/cut.py" 1992), (.int (966) 0), (.int (3) 0), (.int (0) 0), (.int (0) 0), (.int (3) 0), (.ref 1259), (.bool true), (.int (181) 0), (.ref 1260)] : List Value) ++ ([.none, (.ref 1261), (.ref 1262), (.ref 1263), (.int (1996) 0), (.int (966) 0), (.str "/claim/cut.py" 1997)] : List Value))⟩), ⟨[]⟩⟩
def o_213_1265 (P : Params) : Obj := ⟨(.type "function"), none, (.func ⟨"logical_xor", "logical_xor", defArgs (top 182), .stmts (defBody (top 182)), defScope (top 182), 3, [], .none, .none, .none, (.str "tenwhole.shifts" 1862), none, (.ref 1264), .none, 0⟩), ⟨[]⟩⟩
def o_213_1266 (P : Params) : Obj := ⟨(.type "tuple"), none, (.seq ⟨([] : List Value)⟩ 0), ⟨[]⟩⟩
def o_213_1267 (P : Params) : Obj := ⟨.none, none, (.fields ⟨([] : List Value)⟩), ⟨[]⟩⟩
def o_213_1268 (P : Params) : Obj := ⟨(.type "tuple"), none, (.seq ⟨(([(.str "rules" 2002), (.str "a" 2003), (.str "digits" 2004)] : List Value))⟩ 0), ⟨[]⟩⟩
def o_213_1269 (P : Params) : Obj := ⟨(.type "tuple"), none, (.seq ⟨([] : List Value)⟩ 0), ⟨[]⟩⟩
def o_213_1270 (P : Params) : Obj := ⟨.none, none, (.func ⟨"logical_invert", "logical_invert", defArgs (top 183), .stmts (defBody (top 183)), defScope (top 183), 0, [], .none, .none, .none, .none, none, .none, .none, 0⟩), ⟨[]⟩⟩
def o_213_1271 (P : Params) : Obj := ⟨(.type "code"), none, (.fields ⟨(([(.str "logical_invert" 1999), (.str "logical_invert" 2000), (.str "/claim/cut.py" 2001), (.int (968) 0), (.int (2) 0), (.int (0) 0), (.int (0) 0), (.int (3) 0), (.ref 1266), (.bool true), (.int (181) 0), (.ref 1267)] : List Value) ++ ([.none, (.ref 1268), (.ref 1269), (.ref 1270), (.int (2005) 0), (.int (968) 0), (.str "/claim/cut.py" 2006)] : List Value))⟩), ⟨[]⟩⟩
def o_213_1272 (P : Params) : Obj := ⟨(.type "function"), none, (.func ⟨"logical_invert", "logical_invert", defArgs (top 183), .stmts (defBody (top 183)), defScope (top 183), 3, [], .none, .none, .none, (.str "tenwhole.shifts" 1862), none, (.ref 1271), .none, 0⟩), ⟨[]⟩⟩
def o_213_1273 (P : Params) : Obj := ⟨(.type "tuple"), none, (.seq ⟨([] : List Value)⟩ 0), ⟨[]⟩⟩
def o_213_1274 (P : Params) : Obj := ⟨.none, none, (.fields ⟨([] : List Value)⟩), ⟨[]⟩⟩
def o_213_1275 (P : Params) : Obj := ⟨(.type "tuple"), none, (.seq ⟨(([(.str "rules" 2015), (.str "a" 2016), (.str "sign" 2017)] : List Value))⟩ 0), ⟨[]⟩⟩
def o_213_1276 (P : Params) : Obj := ⟨(.type "tuple"), none, (.seq ⟨([] : List Value)⟩ 0), ⟨[]⟩⟩
def o_213_1277 (P : Params) : Obj := ⟨.none, none, (.func ⟨"with_sign", "with_sign", defArgs (top 186), .stmts (defBody (top 186)), defScope (top 186), 0, [], .none, .none, .none, .none, none, .none, .none, 0⟩), ⟨[]⟩⟩
def o_213_1278 (P : Params) : Obj := ⟨(.type "code"), none, (.fields ⟨(([(.str "with_sign" 2012), (.str "with_sign" 2013), (.str "/claim/cut.py" 2014), (.int (975) 0), (.int (3) 0), (.int (0) 0), (.int (0) 0), (.int (3) 0), (.ref 1273), (.bool true), (.int (181) 0), (.ref 1274)] : List Value) ++ ([.none, (.ref 1275), (.ref 1276), (.ref 1277), (.int (2018) 0), (.int (975) 0), (.str "/claim/cut.py" 2019)] : List Value))⟩), ⟨[]⟩⟩
def o_213_1279 (P : Params) : Obj := ⟨(.type "function"), none, (.func ⟨"with_sign", "with_sign", defArgs (top 186), .stmts (defBody (top 186)), defScope (top 186), 3, [], .none, .none, .none, (.str "tenwhole.sums" 2008), none, (.ref 1278), .none, 0⟩), ⟨[]⟩⟩
def o_213_1280 (P : Params) : Obj := ⟨(.type "tuple"), none, (.seq ⟨([] : List Value)⟩ 0), ⟨[]⟩⟩
def o_213_1281 (P : Params) : Obj := ⟨.none, none, (.fields ⟨([] : List Value)⟩), ⟨[]⟩⟩
def o_213_1282 (P : Params) : Obj := ⟨(.type "tuple"), none, (.seq ⟨(([(.str "rules" 2025), (.str "a" 2026), (.str "found" 2027)] : List Value))⟩ 0), ⟨[]⟩⟩
def o_213_1283 (P : Params) : Obj := ⟨(.type "tuple"), none, (.seq ⟨([] : List Value)⟩ 0), ⟨[]⟩⟩
def o_213_1284 (P : Params) : Obj := ⟨.none, none, (.func ⟨"plus", "plus", defArgs (top 188), .stmts (defBody (top 188)), defScope (top 188), 0, [], .none, .none, .none, .none, none, .none, .none, 0⟩), ⟨[]⟩⟩
def o_213_1285 (P : Params) : Obj := ⟨(.type "code"), none, (.fields ⟨(([(.str "plus" 2022), (.str "plus" 2023), (.str "/claim/cut.py" 2024), (.int (980) 0), (.int (2) 0), (.int (0) 0), (.int (0) 0), (.int (3) 0), (.ref 1280), (.bool true), (.int (181) 0), (.ref 1281)] : List Value) ++ ([.none, (.ref 1282), (.ref 1283), (.ref 1284), (.int (2028) 0), (.int (980) 0), (.str "/claim/cut.py" 2029)] : List Value))⟩), ⟨[]⟩⟩
def o_213_1286 (P : Params) : Obj := ⟨(.type "function"), none, (.func ⟨"plus", "plus", defArgs (top 188), .stmts (defBody (top 188)), defScope (top 188), 3, [], .none, .none, .none, (.str "tenwhole.sums" 2008), none, (.ref 1285), .none, 0⟩), ⟨[]⟩⟩
def o_213_1287 (P : Params) : Obj := ⟨(.type "tuple"), none, (.seq ⟨([] : List Value)⟩ 0), ⟨[]⟩⟩
def o_213_1288 (P : Params) : Obj := ⟨.none, none, (.fields ⟨([] : List Value)⟩), ⟨[]⟩⟩
def o_213_1289 (P : Params) : Obj := ⟨(.type "tuple"), none, (.seq ⟨(([(.str "rules" 2034), (.str "a" 2035), (.str "found" 2036)] : List Value))⟩ 0), ⟨[]⟩⟩
def o_213_1290 (P : Params) : Obj := ⟨(.type "tuple"), none, (.seq ⟨([] : List Value)⟩ 0), ⟨[]⟩⟩
def o_213_1291 (P : Params) : Obj := ⟨.none, none, (.func ⟨"minus", "minus", defArgs (top 189), .stmts (defBody (top 189)), defScope (top 189), 0, [], .none, .none, .none, .none, none, .none, .none, 0⟩), ⟨[]⟩⟩
def o_213_1292 (P : Params) : Obj := ⟨(.type "code"), none, (.fields ⟨(([(.str "minus" 2031), (.str "minus" 2032), (.str "/claim/cut.py" 2033), (.int (983) 0), (.int (2) 0), (.int (0) 0), (.int (0) 0), (.int (3) 0), (.ref 1287), (.bool true), (.int (181) 0), (.ref 1288)] : List Value) ++ ([.none, (.ref 1289), (.ref 1290), (.ref 1291), (.int (2037) 0), (.int (983) 0), (.str "/claim/cut.py" 2038)] : List Value))⟩), ⟨[]⟩⟩
def o_213_1293 (P : Params) : Obj := ⟨(.type "function"), none, (.func ⟨"minus", "minus", defArgs (top 189), .stmts (defBody (top 189)), defScope (top 189), 3, [], .none, .none, .none, (.str "tenwhole.sums" 2008), none, (.ref 1292), .none, 0⟩), ⟨[]⟩⟩
def o_213_1294 (P : Params) : Obj := ⟨(.type "tuple"), none, (.seq ⟨([] : List Value)⟩ 0), ⟨[]⟩⟩
def o_213_1295 (P : Params) : Obj := ⟨.none, none, (.fields ⟨([] : List Value)⟩), ⟨[]⟩⟩
def o_213_1296 (P : Params) : Obj := ⟨(.type "tuple"), none, (.seq ⟨(([(.str "rules" 2043), (.str "a" 2044)] : List Value))⟩ 0), ⟨[]⟩⟩
def o_213_1297 (P : Params) : Obj := ⟨(.type "tuple"), none, (.seq ⟨([] : List Value)⟩ 0), ⟨[]⟩⟩
def o_213_1298 (P : Params) : Obj := ⟨.none, none, (.func ⟨"absolute", "absolute", defArgs (top 190), .stmts (defBody (top 190)), defScope (top 190), 0, [], .none, .none, .none, .none, none, .none, .none, 0⟩), ⟨[]⟩⟩
def o_213_1299 (P : Params) : Obj := ⟨(.type "code"), none, (.fields ⟨(([(.str "absolute" 2040), (.str "absolute" 2041), (.str "/claim/cut.py" 2042), (.int (986) 0), (.int (2) 0), (.int (0) 0), (.int (0) 0), (.int (3) 0), (.ref 1294), (.bool true), (.int (181) 0), (.ref 1295)] : List Value) ++ ([.none, (.ref 1296), (.ref 1297), (.ref 1298), (.int (2045) 0), (.int (986) 0), (.str "/claim/cut.py" 2046)] : List Value))⟩), ⟨[]⟩⟩
def o_213_1300 (P : Params) : Obj := ⟨(.type "function"), none, (.func ⟨"absolute", "absolute", defArgs (top 190), .stmts (defBody (top 190)), defScope (top 190), 3, [], .none, .none, .none, (.str "tenwhole.sums" 2008), none, (.ref 1299), .none, 0⟩), ⟨[]⟩⟩
def o_213_1301 (P : Params) : Obj := ⟨(.type "tuple"), none, (.seq ⟨([] : List Value)⟩ 0), ⟨[]⟩⟩
def o_213_1302 (P : Params) : Obj := ⟨.none, none, (.fields ⟨([] : List Value)⟩), ⟨[]⟩⟩
def o_213_1303 (P : Params) : Obj := ⟨(.type "tuple"), none, (.seq ⟨(([(.str "a" 2051)] : List Value))⟩ 0), ⟨[]⟩⟩
def o_213_1304 (P : Params) : Obj := ⟨(.type "tuple"), none, (.seq ⟨([] : List Value)⟩ 0), ⟨[]⟩⟩
def o_213_1305 (P : Params) : Obj := ⟨.none, none, (.func ⟨"worth", "worth", defArgs (top 191), .stmts (defBody (top 191)), defScope (top 191), 0, [], .none, .none, .none, .none, none, .none, .none, 0⟩), ⟨[]⟩⟩
def o_213_1306 (P : Params) : Obj := ⟨(.type "code"), none, (.fields ⟨(([(.str "worth" 2048), (.str "worth" 2049), (.str "/claim/cut.py" 2050), (.int (988) 0), (.int (1) 0), (.int (0) 0), (.int (0) 0), (.int (3) 0), (.ref 1301), (.bool true), (.int (181) 0), (.ref 1302)] : List Value) ++ ([.none, (.ref 1303), (.ref 1304), (.ref 1305), (.int (2052) 0), (.int (988) 0), (.str "/claim/cut.py" 2053)] : List Value))⟩), ⟨[]⟩⟩
def o_213_1307 (P : Params) : Obj := ⟨(.type "function"), none, (.func ⟨"worth", "worth", defArgs (top 191), .stmts (defBody (top 191)), defScope (top 191), 3, [], .none, .none, .none, (.str "tenwhole.sums" 2008), none, (.ref 1306), .none, 0⟩), ⟨[]⟩⟩
def o_213_1308 (P : Params) : Obj := ⟨(.type "tuple"), none, (.seq ⟨([] : List Value)⟩ 0), ⟨[]⟩⟩
def o_213_1309 (P : Params) : Obj := ⟨.none, none, (.fields ⟨([] : List Value)⟩), ⟨[]⟩⟩
def o_213_1310 (P : Params) : Obj := ⟨(.type "tuple"), none, (.seq ⟨(([(.str "rules" 2058), (.str "high" 2059), (.str "low" 2060), (.str "least" 2061), (.str "bottom" 2062), (.str "moved" 2063)] : List Value))⟩ 0), ⟨[]⟩⟩
def o_213_1311 (P : Params) : Obj := ⟨(.type "tuple"), none, (.seq ⟨([] : List Value)⟩ 0), ⟨[]⟩⟩
def o_213_1312 (P : Params) : Obj := ⟨.none, none, (.func ⟨"sum_parts", "sum_parts", defArgs (top 192), .stmts (defBody (top 192)), defScope (top 192), 0, [], .none, .none, .none, .none, none, .none, .none, 0⟩), ⟨[]⟩⟩
def o_213_1313 (P : Params) : Obj := ⟨(.type "code"), none, (.fields ⟨(([(.str "sum_parts" 2055), (.str "sum_parts" 2056), (.str "/claim/cut.py" 2057), (.int (990) 0), (.int (3) 0), (.int (0) 0), (.int (0) 0), (.int (3) 0), (.ref 1308), (.bool true), (.int (181) 0), (.ref 1309)] : List Value) ++ ([.none, (.ref 1310), (.ref 1311), (.ref 1312), (.int (2064) 0), (.int (990) 0), (.str "/claim/cut.py" 2065)] : List Value))⟩), ⟨[]⟩⟩
def o_213_1314 (P : Params) : Obj := ⟨(.type "function"), none, (.func ⟨"sum_parts", "sum_parts", defArgs (top 192), .stmts (defBody (top 192)), defScope (top 192), 3, [], .none, .none, .none, (.str "tenwhole.sums" 2008), none, (.ref 1313), .none, 0⟩), ⟨[]⟩⟩
def o_213_1315 (P : Params) : Obj := ⟨(.type "tuple"), none, (.seq ⟨([] : List Value)⟩ 0), ⟨[]⟩⟩
def o_213_1316 (P : Params) : Obj := ⟨.none, none, (.fields ⟨([] : List Value)⟩), ⟨[]⟩⟩
def o_213_1317 (P : Params) : Obj := ⟨(.type "tuple"), none, (.seq ⟨(([(.str "rules" 2070), (.str "a" 2071), (.str "b" 2072), (.str "high" 2073), (.str "low" 2074), (.str "number" 2075), (.str "exponent" 2076), (.str "sign" 2077)] : List Value))⟩ 0), ⟨[]⟩⟩
def o_213_1318 (P : Params) : Obj := ⟨(.type "tuple"), none, (.seq ⟨([] : List Value)⟩ 0), ⟨[]⟩⟩
def o_213_1319 (P : Params) : Obj := ⟨.none, none, (.func ⟨"added", "added", defArgs (top 193), .stmts (defBody (top 193)), defScope (top 193), 0, [], .none, .none, .none, .none, none, .none, .none, 0⟩), ⟨[]⟩⟩
def o_213_1320 (P : Params) : Obj := ⟨(.type "code"), none, (.fields ⟨(([(.str "added" 2067), (.str "added" 2068), (.str "/claim/cut.py" 2069), (.int (1001) 0), (.int (3) 0), (.int (0) 0), (.int (0) 0), (.int (3) 0), (.ref 1315), (.bool true), (.int (181) 0), (.ref 1316)] : List Value) ++ ([.none, (.ref 1317), (.ref 1318), (.ref 1319), (.int (2078) 0), (.int (1001) 0), (.str "/claim/cut.py" 2079)] : List Value))⟩), ⟨[]⟩⟩
def o_213_1321 (P : Params) : Obj := ⟨(.type "function"), none, (.func ⟨"added", "added", defArgs (top 193), .stmts (defBody (top 193)), defScope (top 193), 3, [], .none, .none, .none, (.str "tenwhole.sums" 2008), none, (.ref 1320), .none, 0⟩), ⟨[]⟩⟩
def o_213_1322 (P : Params) : Obj := ⟨(.type "tuple"), none, (.seq ⟨([] : List Value)⟩ 0), ⟨[]⟩⟩
def o_213_1323 (P : Params) : Obj := ⟨.none, none, (.fields ⟨([] : List Value)⟩), ⟨[]⟩⟩
def o_213_1324 (P : Params) : Obj := ⟨(.type "tuple"), none, (.seq ⟨(([(.str "rules" 2084), (.str "a" 2085), (.str "b" 2086), (.str "found" 2087)] : List Value))⟩ 0), ⟨[]⟩⟩
def o_213_1325 (P : Params) : Obj := ⟨(.type "tuple"), none, (.seq ⟨([] : List Value)⟩ 0), ⟨[]⟩⟩
def o_213_1326 (P : Params) : Obj := ⟨.none, none, (.func ⟨"add", "add", defArgs (top 194), .stmts (defBody (top 194)), defScope (top 194), 0, [], .none, .none, .none, .none, none, .none, .none, 0⟩), ⟨[]⟩⟩
def o_213_1327 (P : Params) : Obj := ⟨(.type "code"), none, (.fields ⟨(([(.str "add" 2081), (.str "add" 2082), (.str "/claim/cut.py" 2083), (.int (1012) 0), (.int (3) 0), (.int (0) 0), (.int (0) 0), (.int (3) 0), (.ref 1322), (.bool true), (.int (181) 0), (.ref 1323)] : List Value) ++ ([.none, (.ref 1324), (.ref 1325), (.ref 1326), (.int (2088) 0), (.int (1012) 0), (.str "/claim/cut.py" 2089)] : List Value))⟩), ⟨[]⟩⟩
def o_213_1328 (P : Params) : Obj := ⟨(.type "function"), none, (.func ⟨"add", "add", defArgs (top 194), .stmts (defBody (top 194)), defScope (top 194), 3, [], .none, .none, .none, (.str "tenwhole.sums" 2008), none, (.ref 1327), .none, 0⟩), ⟨[]⟩⟩
def o_213_1329 (P : Params) : Obj := ⟨(.type "tuple"), none, (.seq ⟨([] : List Value)⟩ 0), ⟨[]⟩⟩
def o_213_1330 (P : Params) : Obj := ⟨.none, none, (.fields ⟨([] : List Value)⟩), ⟨[]⟩⟩
def o_213_1331 (P : Params) : Obj := ⟨(.type "tuple"), none, (.seq ⟨(([(.str "rules" 2094), (.str "a" 2095), (.str "b" 2096), (.str "found" 2097)] : List Value))⟩ 0), ⟨[]⟩⟩
def o_213_1332 (P : Params) : Obj := ⟨(.type "tuple"), none, (.seq ⟨([] : List Value)⟩ 0), ⟨[]⟩⟩
def o_213_1333 (P : Params) : Obj := ⟨.none, none, (.func ⟨"subtract", "subtract", defArgs (top 195), .stmts (defBody (top 195)), defScope (top 195), 0, [], .none, .none, .none, .none, none, .none, .none, 0⟩), ⟨[]⟩⟩
def o_213_1334 (P : Params) : Obj := ⟨(.type "code"), none, (.fields ⟨(([(.str "subtract" 2091), (.str "subtract" 2092), (.str "/claim/cut.py" 2093), (.int (1015) 0), (.int (3) 0), (.int (0) 0), (.int (0) 0), (.int (3) 0), (.ref 1329), (.bool true), (.int (181) 0), (.ref 1330)] : List Value) ++ ([.none, (.ref 1331), (.ref 1332), (.ref 1333), (.int (2098) 0), (.int (1015) 0), (.str "/claim/cut.py" 2099)] : List Value))⟩), ⟨[]⟩⟩
def o_213_1335 (P : Params) : Obj := ⟨(.type "function"), none, (.func ⟨"subtract", "subtract", defArgs (top 195), .stmts (defBody (top 195)), defScope (top 195), 3, [], .none, .none, .none, (.str "tenwhole.sums" 2008), none, (.ref 1334), .none, 0⟩), ⟨[]⟩⟩
def o_213_1336 (P : Params) : Obj := ⟨(.type "tuple"), none, (.seq ⟨([] : List Value)⟩ 0), ⟨[]⟩⟩
def o_213_1337 (P : Params) : Obj := ⟨.none, none, (.fields ⟨([] : List Value)⟩), ⟨[]⟩⟩
def o_213_1338 (P : Params) : Obj := ⟨(.type "tuple"), none, (.seq ⟨(([(.str "a" 2104), (.str "b" 2105), (.str "sign" 2106)] : List Value))⟩ 0), ⟨[]⟩⟩
def o_213_1339 (P : Params) : Obj := ⟨(.type "tuple"), none, (.seq ⟨([] : List Value)⟩ 0), ⟨[]⟩⟩
def o_213_1340 (P : Params) : Obj := ⟨.none, none, (.func ⟨"exact_product", "exact_product", defArgs (top 196), .stmts (defBody (top 196)), defScope (top 196), 0, [], .none, .none, .none, .none, none, .none, .none, 0⟩), ⟨[]⟩⟩
def o_213_1341 (P : Params) : Obj := ⟨(.type "code"), none, (.fields ⟨(([(.str "exact_product" 2101), (.str "exact_product" 2102), (.str "/claim/cut.py" 2103), (.int (1018) 0), (.int (2) 0), (.int (0) 0), (.int (0) 0), (.int (3) 0), (.ref 1336), (.bool true), (.int (181) 0), (.ref 1337)] : List Value) ++ ([.none, (.ref 1338), (.ref 1339), (.ref 1340), (.int (2107) 0), (.int (1018) 0), (.str "/claim/cut.py" 2108)] : List Value))⟩), ⟨[]⟩⟩
def o_213_1342 (P : Params) : Obj := ⟨(.type "function"), none, (.func ⟨"exact_product", "exact_product", defArgs (top 196), .stmts (defBody (top 196)), defScope (top 196), 3, [], .none, .none, .none, (.str "tenwhole.sums" 2008), none, (.ref 1341), .none, 0⟩), ⟨[]⟩⟩
def o_213_1343 (P : Params) : Obj := ⟨(.type "tuple"), none, (.seq ⟨([] : List Value)⟩ 0), ⟨[]⟩⟩
def o_213_1344 (P : Params) : Obj := ⟨.none, none, (.fields ⟨([] : List Value)⟩), ⟨[]⟩⟩
def o_213_1345 (P : Params) : Obj := ⟨(.type "tuple"), none, (.seq ⟨(([(.str "rules" 2113), (.str "a" 2114), (.str "b" 2115), (.str "found" 2116), (.str "product" 2117)] : List Value))⟩ 0), ⟨[]⟩⟩
def o_213_1346 (P : Params) : Obj := ⟨(.type "tuple"), none, (.seq ⟨([] : List Value)⟩ 0), ⟨[]⟩⟩
def o_213_1347 (P : Params) : Obj := ⟨.none, none, (.func ⟨"multiply", "multiply", defArgs (top 197), .stmts (defBody (top 197)), defScope (top 197), 0, [], .none, .none, .none, .none, none, .none, .none, 0⟩), ⟨[]⟩⟩
def o_213_1348 (P : Params) : Obj := ⟨(.type "code"), none, (.fields ⟨(([(.str "multiply" 2110), (.str "multiply" 2111), (.str "/claim/cut.py" 2112), (.int (1023) 0), (.int (3) 0), (.int (0) 0), (.int (0) 0), (.int (3) 0), (.ref 1343), (.bool true), (.int (181) 0), (.ref 1344)] : List Value) ++ ([.none, (.ref 1345), (.ref 1346), (.ref 1347), (.int (2118) 0), (.int (1023) 0), (.str "/claim/cut.py" 2119)] : List Value))⟩), ⟨[]⟩⟩
def o_213_1349 (P : Params) : Obj := ⟨(.type "function"), none, (.func ⟨"multiply", "multiply", defArgs (top 197), .stmts (defBody (top 197)), defScope (top 197), 3, [], .none, .none, .none, (.str "tenwhole.sums" 2008), none, (.ref 1348), .none, 0⟩), ⟨[]⟩⟩
def o_213_1350 (P : Params) : Obj := ⟨(.type "tuple"), none, (.seq ⟨([] : List Value)⟩ 0), ⟨[]⟩⟩
def o_213_1351 (P : Params) : Obj := ⟨.none, none, (.fields ⟨([] : List Value)⟩), ⟨[]⟩⟩
def o_213_1352 (P : Params) : Obj := ⟨(.type "tuple"), none, (.seq ⟨(([(.str "rules" 2124), (.str "a" 2125), (.str "b" 2126), (.str "c" 2127), (.str "found" 2128), (.str "product" 2129), (.str "quiet" 2130), (.str "conditions" 2131)] : List Value))⟩ 0), ⟨[]⟩⟩
def o_213_1353 (P : Params) : Obj := ⟨(.type "tuple"), none, (.seq ⟨([] : List Value)⟩ 0), ⟨[]⟩⟩
def o_213_1354 (P : Params) : Obj := ⟨.none, none, (.func ⟨"fma", "fma", defArgs (top 198), .stmts (defBody (top 198)), defScope (top 198), 0, [], .none, .none, .none, .none, none, .none, .none, 0⟩), ⟨[]⟩⟩
def o_213_1355 (P : Params) : Obj := ⟨(.type "code"), none, (.fields ⟨(([(.str "fma" 2121), (.str "fma" 2122), (.str "/claim/cut.py" 2123), (.int (1029) 0), (.int (4) 0), (.int (0) 0), (.int (0) 0), (.int (3) 0), (.ref 1350), (.bool true), (.int (181) 0), (.ref 1351)] : List Value) ++ ([.none, (.ref 1352), (.ref 1353), (.ref 1354), (.int (2132) 0), (.int (1029) 0), (.str "/claim/cut.py" 2133)] : List Value))⟩), ⟨[]⟩⟩
def o_213_1356 (P : Params) : Obj := ⟨(.type "function"), none, (.func ⟨"fma", "fma", defArgs (top 198), .stmts (defBody (top 198)), defScope (top 198), 3, [], .none, .none, .none, (.str "tenwhole.sums" 2008), none, (.ref 1355), .none, 0⟩), ⟨[]⟩⟩
def o_213_1357 (P : Params) : Obj := ⟨(.type "tuple"), none, (.seq ⟨(([(.str "is_finite" 2137), (.str "is_infinite" 2138), (.str "is_nan" 2139), (.str "is_qnan" 2140), (.str "is_snan" 2141), (.str "is_signed" 2142), (.str "is_zero" 2143), (.str "is_canonical" 2144)] : List Value))⟩ 0), ⟨[]⟩⟩
def o_213_1358 (P : Params) : Obj := ⟨(.type "tuple"), none, (.seq ⟨(([(.str "copy_abs" 2146), (.str "copy_negate" 2147), (.str "canonical" 2148)] : List Value))⟩ 0), ⟨[]⟩⟩
def o_213_1359 (P : Params) : Obj := ⟨(.type "tuple"), none, (.seq ⟨(([(.str "plus" 2150), (.str "absolute" 2151), (.str "minus" 2152), (.str "to_integral_exact" 2153), (.str "to_integral_value" 2154), (.str "normalize" 2155), (.str "number_class" 2156), (.str "is_normal" 2157), (.str "is_subnormal" 2158), (.str "next_plus" 2159), (.str "next_minus" 2160), (.str "logb" 2161)] : List Value) ++ ([(.str "logical_invert" 2162), (.str "sqrt" 2163), (.str "exp" 2164), (.str "ln" 2165), (.str "log10" 2166)] : List Value))⟩ 0), ⟨[]⟩⟩
def o_213_1360 (P : Params) : Obj := ⟨(.type "tuple"), none, (.seq ⟨(([(.str "add" 2168), (.str "subtract" 2169), (.str "multiply" 2170), (.str "divide" 2171), (.str "divide_int" 2172), (.str "remainder" 2173), (.str "divide_both" 2174), (.str "remainder_near" 2175), (.str "quantize" 2176), (.str "same_quantum" 2177), (.str "compare" 2178), (.str "compare_signal" 2179)] : List Value) ++ ([(.str "compare_total" 2180), (.str "compare_total_mag" 2181), (.str "equal" 2182), (.str "less" 2183), (.str "at_most" 2184), (.str "maximum" 2185), (.str "minimum" 2186), (.str "max_mag" 2187), (.str "min_mag" 2188), (.str "next_toward" 2189), (.str "scaleb" 2190), (.str "shift" 2191)] : List Value) ++ ([(.str "rotate" 2192), (.str "logical_and" 2193), (.str "logical_or" 2194), (.str "logical_xor" 2195), (.str "power" 2196)] : List Value))⟩ 0), ⟨[]⟩⟩
def o_213_1361 (P : Params) : Obj := ⟨(.type "tuple"), none, (.seq ⟨([] : List Value)⟩ 0), ⟨[]⟩⟩
def o_213_1362 (P : Params) : Obj := ⟨.none, none, (.fields ⟨([] : List Value)⟩), ⟨[]⟩⟩
def o_213_1363 (P : Params) : Obj := ⟨(.type "tuple"), none, (.seq ⟨(([(.str "name" 2201), (.str "many" 2202)] : List Value))⟩ 0), ⟨[]⟩⟩
def o_213_1364 (P : Params) : Obj := ⟨(.type "tuple"), none, (.seq ⟨([] : List Value)⟩ 0), ⟨[]⟩⟩
def o_213_1365 (P : Params) : Obj := ⟨.none, none, (.func ⟨"is_operation", "is_operation", defArgs (top 204), .stmts (defBody (top 204)), defScope (top 204), 0, [], .none, .none, .none, .none, none, .none, .none, 0⟩), ⟨[]⟩⟩
def o_213_1366 (P : Params) : Obj := ⟨(.type "code"), none, (.fields ⟨(([(.str "is_operation" 2198), (.str "is_operation" 2199), (.str "/claim/cut.py" 2200), (.int (1041) 0), (.int (2) 0), (.int (0) 0), (.int (0) 0), (.int (3) 0), (.ref 1361), (.bool true), (.int (181) 0), (.ref 1362)] : List Value) ++ ([.none, (.ref 1363), (.ref 1364), (.ref 1365), (.int (2203) 0), (.int (1041) 0), (.str "/claim/cut.py" 2204)] : List Value))⟩), ⟨[]⟩⟩
def o_213_1367 (P : Params) : Obj := ⟨(.type "function"), none, (.func ⟨"is_operation", "is_operation", defArgs (top 204), .stmts (defBody (top 204)), defScope (top 204), 3, [], .none, .none, .none, (.str "tenwhole.operations" 2135), none, (.ref 1366), .none, 0⟩), ⟨[]⟩⟩
def o_213_1368 (P : Params) : Obj := ⟨(.type "tuple"), none, (.seq ⟨([] : List Value)⟩ 0), ⟨[]⟩⟩
def o_213_1369 (P : Params) : Obj := ⟨.none, none, (.fields ⟨([] : List Value)⟩), ⟨[]⟩⟩
def o_213_1370 (P : Params) : Obj := ⟨(.type "tuple"), none, (.seq ⟨(([(.str "rules" 2209), (.str "name" 2210), (.str "operands" 2211)] : List Value))⟩ 0), ⟨[]⟩⟩
def o_213_1371 (P : Params) : Obj := ⟨(.type "tuple"), none, (.seq ⟨([] : List Value)⟩ 0), ⟨[]⟩⟩
def o_213_1372 (P : Params) : Obj := ⟨.none, none, (.func ⟨"outcome_of", "outcome_of", defArgs (top 205), .stmts (defBody (top 205)), defScope (top 205), 0, [], .none, .none, .none, .none, none, .none, .none, 0⟩), ⟨[]⟩⟩
def o_213_1373 (P : Params) : Obj := ⟨(.type "code"), none, (.fields ⟨(([(.str "outcome_of" 2206), (.str "outcome_of" 2207), (.str "/claim/cut.py" 2208), (.int (1049) 0), (.int (3) 0), (.int (0) 0), (.int (0) 0), (.int (3) 0), (.ref 1368), (.bool true), (.int (181) 0), (.ref 1369)] : List Value) ++ ([.none, (.ref 1370), (.ref 1371), (.ref 1372), (.int (2212) 0), (.int (1049) 0), (.str "/claim/cut.py" 2213)] : List Value))⟩), ⟨[]⟩⟩
def o_213_1374 (P : Params) : Obj := ⟨(.type "function"), none, (.func ⟨"outcome_of", "outcome_of", defArgs (top 205), .stmts (defBody (top 205)), defScope (top 205), 3, [], .none, .none, .none, (.str "tenwhole.operations" 2135), none, (.ref 1373), .none, 0⟩), ⟨[]⟩⟩
def o_213_1375 (P : Params) : Obj := ⟨(.type "tuple"), none, (.seq ⟨([] : List Value)⟩ 0), ⟨[]⟩⟩
def o_213_1376 (P : Params) : Obj := ⟨.none, none, (.fields ⟨([] : List Value)⟩), ⟨[]⟩⟩
def o_213_1377 (P : Params) : Obj := ⟨(.type "tuple"), none, (.seq ⟨(([(.str "rules" 2218), (.str "name" 2219), (.str "a" 2220)] : List Value))⟩ 0), ⟨[]⟩⟩
def o_213_1378 (P : Params) : Obj := ⟨(.type "tuple"), none, (.seq ⟨([] : List Value)⟩ 0), ⟨[]⟩⟩
def o_213_1379 (P : Params) : Obj := ⟨.none, none, (.func ⟨"with_one", "with_one", defArgs (top 206), .stmts (defBody (top 206)), defScope (top 206), 0, [], .none, .none, .none, .none, none, .none, .none, 0⟩), ⟨[]⟩⟩
def o_213_1380 (P : Params) : Obj := ⟨(.type "code"), none, (.fields ⟨(([(.str "with_one" 2215), (.str "with_one" 2216), (.str "/claim/cut.py" 2217), (.int (1063) 0), (.int (3) 0), (.int (0) 0), (.int (0) 0), (.int (3) 0), (.ref 1375), (.bool true), (.int (181) 0), (.ref 1376)] : List Value) ++ ([.none, (.ref 1377), (.ref 1378), (.ref 1379), (.int (2221) 0), (.int (1063) 0), (.str "/claim/cut.py" 2222)] : List Value))⟩), ⟨[]⟩⟩
def o_213_1381 (P : Params) : Obj := ⟨(.type "function"), none, (.func ⟨"with_one", "with_one", defArgs (top 206), .stmts (defBody (top 206)), defScope (top 206), 3, [], .none, .none, .none, (.str "tenwhole.operations" 2135), none, (.ref 1380), .none, 0⟩), ⟨[]⟩⟩
def o_213_1382 (P : Params) : Obj := ⟨(.type "tuple"), none, (.seq ⟨([] : List Value)⟩ 0), ⟨[]⟩⟩
def o_213_1383 (P : Params) : Obj := ⟨.none, none, (.fields ⟨([] : List Value)⟩), ⟨[]⟩⟩
def o_213_1384 (P : Params) : Obj := ⟨(.type "tuple"), none, (.seq ⟨(([(.str "rules" 2227), (.str "name" 2228), (.str "a" 2229), (.str "b" 2230)] : List Value))⟩ 0), ⟨[]⟩⟩
def o_213_1385 (P : Params) : Obj := ⟨(.type "tuple"), none, (.seq ⟨([] : List Value)⟩ 0), ⟨[]⟩⟩
def o_213_1386 (P : Params) : Obj := ⟨.none, none, (.func ⟨"with_two", "with_two", defArgs (top 207), .stmts (defBody (top 207)), defScope (top 207), 0, [], .none, .none, .none, .none, none, .none, .none, 0⟩), ⟨[]⟩⟩
def o_213_1387 (P : Params) : Obj := ⟨(.type "code"), none, (.fields ⟨(([(.str "with_two" 2224), (.str "with_two" 2225), (.str "/claim/cut.py" 2226), (.int (1097) 0), (.int (4) 0), (.int (0) 0), (.int (0) 0), (.int (3) 0), (.ref 1382), (.bool true), (.int (181) 0), (.ref 1383)] : List Value) ++ ([.none, (.ref 1384), (.ref 1385), (.ref 1386), (.int (2231) 0), (.int (1097) 0), (.str "/claim/cut.py" 2232)] : List Value))⟩), ⟨[]⟩⟩
def o_213_1388 (P : Params) : Obj := ⟨(.type "function"), none, (.func ⟨"with_two", "with_two", defArgs (top 207), .stmts (defBody (top 207)), defScope (top 207), 3, [], .none, .none, .none, (.str "tenwhole.operations" 2135), none, (.ref 1387), .none, 0⟩), ⟨[]⟩⟩
def o_213_1389 (P : Params) : Obj := ⟨(.type "tuple"), none, (.seq ⟨([] : List Value)⟩ 0), ⟨[]⟩⟩
def o_213_1390 (P : Params) : Obj := ⟨.none, none, (.fields ⟨([] : List Value)⟩), ⟨[]⟩⟩
def o_213_1391 (P : Params) : Obj := ⟨(.type "tuple"), none, (.seq ⟨(([(.str "rules" 2237), (.str "name" 2238), (.str "a" 2239), (.str "b" 2240)] : List Value))⟩ 0), ⟨[]⟩⟩
def o_213_1392 (P : Params) : Obj := ⟨(.type "tuple"), none, (.seq ⟨([] : List Value)⟩ 0), ⟨[]⟩⟩
def o_213_1393 (P : Params) : Obj := ⟨.none, none, (.func ⟨"first_half", "first_half", defArgs (top 208), .stmts (defBody (top 208)), defScope (top 208), 0, [], .none, .none, .none, .none, none, .none, .none, 0⟩), ⟨[]⟩⟩
def o_213_1394 (P : Params) : Obj := ⟨(.type "code"), none, (.fields ⟨(([(.str "first_half" 2234), (.str "first_half" 2235), (.str "/claim/cut.py" 2236), (.int (1101) 0), (.int (4) 0), (.int (0) 0), (.int (0) 0), (.int (3) 0), (.ref 1389), (.bool true), (.int (181) 0), (.ref 1390)] : List Value) ++ ([.none, (.ref 1391), (.ref 1392), (.ref 1393), (.int (2241) 0), (.int (1101) 0), (.str "/claim/cut.py" 2242)] : List Value))⟩), ⟨[]⟩⟩
def o_213_1395 (P : Params) : Obj := ⟨(.type "function"), none, (.func ⟨"first_half", "first_half", defArgs (top 208), .stmts (defBody (top 208)), defScope (top 208), 3, [], .none, .none, .none, (.str "tenwhole.operations" 2135), none, (.ref 1394), .none, 0⟩), ⟨[]⟩⟩
def o_213_1396 (P : Params) : Obj := ⟨(.type "tuple"), none, (.seq ⟨([] : List Value)⟩ 0), ⟨[]⟩⟩
def o_213_1397 (P : Params) : Obj := ⟨.none, none, (.fields ⟨([] : List Value)⟩), ⟨[]⟩⟩
def o_213_1398 (P : Params) : Obj := ⟨(.type "tuple"), none, (.seq ⟨(([(.str "rules" 2247), (.str "name" 2248), (.str "a" 2249), (.str "b" 2250)] : List Value))⟩ 0), ⟨[]⟩⟩
def o_213_1399 (P : Params) : Obj := ⟨(.type "tuple"), none, (.seq ⟨([] : List Value)⟩ 0), ⟨[]⟩⟩
def o_213_1400 (P : Params) : Obj := ⟨.none, none, (.func ⟨"second_half", "second_half", defArgs (top 209), .stmts (defBody (top 209)), defScope (top 209), 0, [], .none, .none, .none, .none, none, .none, .none, 0⟩), ⟨[]⟩⟩
def o_213_1401 (P : Params) : Obj := ⟨(.type "code"), none, (.fields ⟨(([(.str "second_half" 2244), (.str "second_half" 2245), (.str "/claim/cut.py" 2246), (.int (1133) 0), (.int (4) 0), (.int (0) 0), (.int (0) 0), (.int (3) 0), (.ref 1396), (.bool true), (.int (181) 0), (.ref 1397)] : List Value) ++ ([.none, (.ref 1398), (.ref 1399), (.ref 1400), (.int (2251) 0), (.int (1133) 0), (.str "/claim/cut.py" 2252)] : List Value))⟩), ⟨[]⟩⟩
def o_213_1402 (P : Params) : Obj := ⟨(.type "function"), none, (.func ⟨"second_half", "second_half", defArgs (top 209), .stmts (defBody (top 209)), defScope (top 209), 3, [], .none, .none, .none, (.str "tenwhole.operations" 2135), none, (.ref 1401), .none, 0⟩), ⟨[]⟩⟩
def o_213_1403 (P : Params) : Obj := ⟨(.type "tuple"), none, (.seq ⟨(([(.str "up" 2262), (.str "down" 2263), (.str "ceiling" 2264), (.str "floor" 2265), (.str "half_up" 2266), (.str "half_down" 2267), (.str "half_even" 2268), (.str "05up" 2269)] : List Value))⟩ 0), ⟨[]⟩⟩
def l_213 (P : Params) : List (Nat × Obj) := ([(3, o_213_3 P), (12, o_213_12 P), (1121, o_213_1121 P), (1122, o_213_1122 P), (1123, o_213_1123 P), (1124, o_213_1124 P), (1125, o_213_1125 P), (1126, o_213_1126 P), (1127, o_213_1127 P), (1128, o_213_1128 P), (1129, o_213_1129 P), (1130, o_213_1130 P), (1131, o_213_1131 P), (1132, o_213_1132 P), (1133, o_213_1133 P), (1134, o_213_1134 P), (1135, o_213_1135 P), (1136, o_213_1136 P), (1137, o_213_1137 P), (1138, o_213_1138 P), (1139, o_213_1139 P), (1140, o_213_1140 P), (1141, o_213_1141 P), (1142, o_213_1142 P), (1143, o_213_1143 P)] : List (Nat × Obj)) ++ ([(1144, o_213_1144 P), (1145, o_213_1145 P), (1146, o_213_1146 P), (1147, o_213_1147 P), (1148, o_213_1148 P), (1149, o_213_1149 P), (1150, o_213_1150 P), (1151, o_213_1151 P), (1152, o_213_1152 P), (1153, o_213_1153 P), (1154, o_213_1154 P), (1155, o_213_1155 P), (1156, o_213_1156 P), (1157, o_213_1157 P), (1158, o_213_1158 P), (1159, o_213_1159 P), (1160, o_213_1160 P), (1161, o_213_1161 P), (1162, o_213_1162 P), (1163, o_213_1163 P), (1164, o_213_1164 P), (1165, o_213_1165 P), (1166, o_213_1166 P), (1167, o_213_1167 P), (1168, o_213_1168 P)] : List (Nat × Obj)) ++ ([(1169, o_213_1169 P), (1170, o_213_1170 P), (1171, o_213_1171 P), (1172, o_213_1172 P), (1173, o_213_1173 P), (1174, o_213_1174 P), (1175, o_213_1175 P), (1176, o_213_1176 P), (1177, o_213_1177 P), (1178, o_213_1178 P), (1179, o_213_1179 P), (1180, o_213_1180 P), (1181, o_213_1181 P), (1182, o_213_1182 P), (1183, o_213_1183 P), (1184, o_213_1184 P), (1185, o_213_1185 P), (1186, o_213_1186 P), (1187, o_213_1187 P), (1188, o_213_1188 P), (1189, o_213_1189 P), (1190, o_213_1190 P), (1191, o_213_1191 P), (1192, o_213_1192 P), (1193, o_213_1193 P)] : List (Nat × Obj)) ++ ([(1194, o_213_1194 P), (1195, o_213_1195 P), (1196, o_213_1196 P), (1197, o_213_1197 P), (1198, o_213_1198 P), (1199, o_213_1199 P), (1200, o_213_1200 P), (1201, o_213_1201 P), (1202, o_213_1202 P), (1203, o_213_1203 P), (1204, o_213_1204 P), (1205, o_213_1205 P), (1206, o_213_1206 P), (1207, o_213_1207 P), (1208, o_213_1208 P), (1209, o_213_1209 P), (1210, o_213_1210 P), (1211, o_213_1211 P), (1212, o_213_1212 P), (1213, o_213_1213 P), (1214, o_213_1214 P), (1215, o_213_1215 P), (1216, o_213_1216 P), (1217, o_213_1217 P), (1218, o_213_1218 P)] : List (Nat × Obj)) ++ ([(1219, o_213_1219 P), (1220, o_213_1220 P), (1221, o_213_1221 P), (1222, o_213_1222 P), (1223, o_213_1223 P), (1224, o_213_1224 P), (1225, o_213_1225 P), (1226, o_213_1226 P), (1227, o_213_1227 P), (1228, o_213_1228 P), (1229, o_213_1229 P), (1230, o_213_1230 P), (1231, o_213_1231 P), (1232, o_213_1232 P), (1233, o_213_1233 P), (1234, o_213_1234 P), (1235, o_213_1235 P), (1236, o_213_1236 P), (1237, o_213_1237 P), (1238, o_213_1238 P), (1239, o_213_1239 P), (1240, o_213_1240 P), (1241, o_213_1241 P), (1242, o_213_1242 P), (1243, o_213_1243 P)] : List (Nat × Obj)) ++ ([(1244, o_213_1244 P), (1245, o_213_1245 P), (1246, o_213_1246 P), (1247, o_213_1247 P), (1248, o_213_1248 P), (1249, o_213_1249 P), (1250, o_213_1250 P), (1251, o_213_1251 P), (1252, o_213_1252 P), (1253, o_213_1253 P), (1254, o_213_1254 P), (1255, o_213_1255 P), (1256, o_213_1256 P), (1257, o_213_1257 P), (1258, o_213_1258 P), (1259, o_213_1259 P), (1260, o_213_1260 P), (1261, o_213_1261 P), (1262, o_213_1262 P), (1263, o_213_1263 P), (1264, o_213_1264 P), (1265, o_213_1265 P), (1266, o_213_1266 P), (1267, o_213_1267 P), (1268, o_213_1268 P)] : List (Nat × Obj)) ++ ([(1269, o_213_1269 P), (1270, o_213_1270 P), (1271, o_213_1271 P), (1272, o_213_1272 P), (1273, o_213_1273 P), (1274, o_213_1274 P), (1275, o_213_1275 P), (1276, o_213_1276 P), (1277, o_213_1277 P), (1278, o_213_1278 P), (1279, o_213_1279 P), (1280, o_213_1280 P), (1281, o_213_1281 P), (1282, o_213_1282 P), (1283, o_213_1283 P), (1284, o_213_1284 P), (1285, o_213_1285 P), (1286, o_213_1286 P), (1287, o_213_1287 P), (1288, o_213_1288 P), (1289, o_213_1289 P), (1290, o_213_1290 P), (1291, o_213_1291 P), (1292, o_213_1292 P), (1293, o_213_1293 P)] : List (Nat × Obj)) ++ ([(1294, o_213_1294 P), (1295, o_213_1295 P), (1296, o_213_1296 P), (1297, o_213_1297 P), (1298, o_213_1298 P), (1299, o_213_1299 P), (1300, o_213_1300 P), (1301, o_213_1301 P), (1302, o_213_1302 P), (1303, o_213_1303 P), (1304, o_213_1304 P), (1305, o_213_1305 P), (1306, o_213_1306 P), (1307, o_213_1307 P), (1308, o_213_1308 P), (1309, o_213_1309 P), (1310, o_213_1310 P), (1311, o_213_1311 P), (1312, o_213_1312 P), (1313, o_213_1313 P), (1314, o_213_1314 P), (1315, o_213_1315 P), (1316, o_213_1316 P), (1317, o_213_1317 P), (1318, o_213_1318 P)] : List (Nat × Obj)) ++ ([(1319, o_213_1319 P), (1320, o_213_1320 P), (1321, o_213_1321 P), (1322, o_213_1322 P), (1323, o_213_1323 P), (1324, o_213_1324 P), (1325, o_213_1325 P), (1326, o_213_1326 P), (1327, o_213_1327 P), (1328, o_213_1328 P), (1329, o_213_1329 P), (1330, o_213_1330 P), (1331, o_213_1331 P), (1332, o_213_1332 P), (1333, o_213_1333 P), (1334, o_213_1334 P), (1335, o_213_1335 P), (1336, o_213_1336 P), (1337, o_213_1337 P), (1338, o_213_1338 P), (1339, o_213_1339 P), (1340, o_213_1340 P), (1341, o_213_1341 P), (1342, o_213_1342 P), (1343, o_213_1343 P)] : List (Nat × Obj)) ++ ([(1344, o_213_1344 P), (1345, o_213_1345 P), (1346, o_213_1346 P), (1347, o_213_1347 P), (1348, o_213_1348 P), (1349, o_213_1349 P), (1350, o_213_1350 P), (1351, o_213_1351 P), (1352, o_213_1352 P), (1353, o_213_1353 P), (1354, o_213_1354 P), (1355, o_213_1355 P), (1356, o_213_1356 P), (1357, o_213_1357 P), (1358, o_213_1358 P), (1359, o_213_1359 P), (1360, o_213_1360 P), (1361, o_213_1361 P), (1362, o_213_1362 P), (1363, o_213_1363 P), (1364, o_213_1364 P), (1365, o_213_1365 P), (1366, o_213_1366 P), (1367, o_213_1367 P), (1368, o_213_1368 P)] : List (Nat × Obj)) ++ ([(1369, o_213_1369 P), (1370, o_213_1370 P), (1371, o_213_1371 P), (1372, o_213_1372 P), (1373, o_213_1373 P), (1374, o_213_1374 P), (1375, o_213_1375 P), (1376, o_213_1376 P), (1377, o_213_1377 P), (1378, o_213_1378 P), (1379, o_213_1379 P), (1380, o_213_1380 P), (1381, o_213_1381 P), (1382, o_213_1382 P), (1383, o_213_1383 P), (1384, o_213_1384 P), (1385, o_213_1385 P), (1386, o_213_1386 P), (1387, o_213_1387 P), (1388, o_213_1388 P), (1389, o_213_1389 P), (1390, o_213_1390 P), (1391, o_213_1391 P), (1392, o_213_1392 P), (1393, o_213_1393 P)] : List (Nat × Obj)) ++ ([(1394, o_213_1394 P), (1395, o_213_1395 P), (1396, o_213_1396 P), (1397, o_213_1397 P), (1398, o_213_1398 P), (1399, o_213_1399 P), (1400, o_213_1400 P), (1401, o_213_1401 P), (1402, o_213_1402 P), (1403, o_213_1403 P)] : List (Nat × Obj))
def t_213 (P : Params) : BT := (insAll (l_213 P) (t_161 P)).getD .nil
def S_213 (w : World) (os : OsState) : SharedT := ⟨t_213 w.params, 1404, {}, #[], ⟨0, 0, 0, 0⟩, 2271, os⟩
def o_214_3 (P : Params) : Obj := ⟨(.type "dict"), none, (.dict ⟨(([⟨PyData.keyHash P "__name__", (.str "__name__" 165), (.str "tenwhole.contexts" 2254)⟩, ⟨PyData.keyHash P "__doc__", (.str "__doc__" 166), .none⟩, ⟨PyData.keyHash P "__package__", (.str "__package__" 167), .none⟩, ⟨PyData.keyHash P "__loader__", (.str "__loader__" 168), (.builtin "__main__.__loader__#opaque")⟩, ⟨PyData.keyHash P "__spec__", (.str "__spec__" 169), .none⟩, ⟨PyData.keyHash P "__annotations__", (.str "__annotations__" 170), (.ref 6)⟩, ⟨PyData.keyHash P "__builtins__", (.str "__builtins__" 171), (.ref 4)⟩, ⟨PyData.keyHash P "__file__", (.str "__file__" 173), (.str "/claim/cut.py" 172)⟩, ⟨PyData.keyHash P "__cached__", (.str "__cached__" 174), .none⟩, ⟨PyData.keyHash P "_wall", (.str "_wall" 193), (.ref 21)⟩, ⟨PyData.keyHash P "ORDER", (.str "ORDER" 204), (.ref 22)⟩, ⟨PyData.keyHash P "INVALID", (.str "INVALID" 209), (.ref 23)⟩] : List DictEntry) ++ ([⟨PyData.keyHash P "TenSignal", (.str "TenSignal" 238), (.ref 40)⟩, ⟨PyData.keyHash P "Clamped", (.str "Clamped" 254), (.ref 53)⟩, ⟨PyData.keyHash P "DivisionByZero", (.str "DivisionByZero" 270), (.ref 65)⟩, ⟨PyData.keyHash P "Inexact", (.str "Inexact" 286), (.ref 77)⟩, ⟨PyData.keyHash P "InvalidOperation", (.str "InvalidOperation" 302), (.ref 89)⟩, ⟨PyData.keyHash P "Overflow", (.str "Overflow" 318), (.ref 101)⟩, ⟨PyData.keyHash P "Rounded", (.str "Rounded" 334), (.ref 113)⟩, ⟨PyData.keyHash P "Subnormal", (.str "Subnormal" 350), (.ref 125)⟩, ⟨PyData.keyHash P "Underflow", (.str "Underflow" 366), (.ref 137)⟩, ⟨PyData.keyHash P "TenError", (.str "TenError" 384), (.ref 149)⟩, ⟨PyData.keyHash P "NoOperand", (.str "NoOperand" 409), (.ref 169)⟩, ⟨PyData.keyHash P "NoDecimal", (.str "NoDecimal" 434), (.ref 188)⟩] : List DictEntry) ++ ([⟨PyData.keyHash P "NoContext", (.str "NoContext" 459), (.ref 207)⟩, ⟨PyData.keyHash P "NoName", (.str "NoName" 484), (.ref 226)⟩, ⟨PyData.keyHash P "raise_signal", (.str "raise_signal" 492), (.ref 235)⟩, ⟨PyData.keyHash P "signal_of", (.str "signal_of" 499), (.ref 242)⟩, ⟨PyData.keyHash P "STEP", (.str "STEP" 503), (.int (64) 502)⟩, ⟨PyData.keyHash P "GREAT_decimals", (.str "GREAT_decimals" 507), (.int (10000000000000000000000000000000000000000000000000000000000000000) 506)⟩, ⟨PyData.keyHash P "INFINITY", (.str "INFINITY" 509), (.str "F" 508)⟩, ⟨PyData.keyHash P "QUIET", (.str "QUIET" 511), (.str "n" 510)⟩, ⟨PyData.keyHash P "SIGNALING", (.str "SIGNALING" 513), (.str "N" 512)⟩, ⟨PyData.keyHash P "Decimal", (.str "Decimal" 569), (.ref 280)⟩, ⟨PyData.keyHash P "is_integer", (.str "is_integer" 576), (.ref 291)⟩, ⟨PyData.keyHash P "is_exponent", (.str "is_exponent" 583), (.ref 298)⟩] : List DictEntry) ++ ([⟨PyData.keyHash P "is_finite", (.str "is_finite" 590), (.ref 305)⟩, ⟨PyData.keyHash P "is_infinite", (.str "is_infinite" 597), (.ref 312)⟩, ⟨PyData.keyHash P "is_nan", (.str "is_nan" 604), (.ref 319)⟩, ⟨PyData.keyHash P "is_signaling", (.str "is_signaling" 611), (.ref 326)⟩, ⟨PyData.keyHash P "is_zero", (.str "is_zero" 618), (.ref 333)⟩, ⟨PyData.keyHash P "decimal_of", (.str "decimal_of" 625), (.ref 340)⟩, ⟨PyData.keyHash P "infinity", (.str "infinity" 632), (.ref 347)⟩, ⟨PyData.keyHash P "plain_nan", (.str "plain_nan" 638), (.ref 354)⟩, ⟨PyData.keyHash P "tens", (.str "tens" 647), (.ref 361)⟩, ⟨PyData.keyHash P "count_digits", (.str "count_digits" 655), (.ref 368)⟩, ⟨PyData.keyHash P "digits_of", (.str "digits_of" 661), (.ref 373)⟩, ⟨PyData.keyHash P "order_of", (.str "order_of" 671), (.ref 380)⟩] : List DictEntry) ++ ([⟨PyData.keyHash P "side_of", (.str "side_of" 679), (.ref 387)⟩, ⟨PyData.keyHash P "size_order", (.str "size_order" 690), (.ref 394)⟩, ⟨PyData.keyHash P "Rules", (.str "Rules" 751), (.ref 432)⟩, ⟨PyData.keyHash P "goes_up", (.str "goes_up" 761), (.ref 443)⟩, ⟨PyData.keyHash P "rounded_parts", (.str "rounded_parts" 776), (.ref 450)⟩, ⟨PyData.keyHash P "overflow", (.str "overflow" 786), (.ref 457)⟩, ⟨PyData.keyHash P "finish_zero", (.str "finish_zero" 797), (.ref 464)⟩, ⟨PyData.keyHash P "finish_cut", (.str "finish_cut" 812), (.ref 471)⟩, ⟨PyData.keyHash P "finish_parts", (.str "finish_parts" 826), (.ref 478)⟩, ⟨PyData.keyHash P "finish_endless", (.str "finish_endless" 836), (.ref 485)⟩, ⟨PyData.keyHash P "kept_digits", (.str "kept_digits" 845), (.ref 492)⟩, ⟨PyData.keyHash P "finish", (.str "finish" 853), (.ref 499)⟩] : List DictEntry) ++ ([⟨PyData.keyHash P "nan_of", (.str "nan_of" 859), (.ref 504)⟩, ⟨PyData.keyHash P "invalid", (.str "invalid" 866), (.ref 511)⟩, ⟨PyData.keyHash P "sign_of_both", (.str "sign_of_both" 874), (.ref 518)⟩, ⟨PyData.keyHash P "INVALID_WORD", (.str "INVALID_WORD" 878), (.str "InvalidOperation" 877)⟩, ⟨PyData.keyHash P "as_decimal", (.str "as_decimal" 885), (.ref 525)⟩, ⟨PyData.keyHash P "unsigned", (.str "unsigned" 892), (.ref 532)⟩, ⟨PyData.keyHash P "sided", (.str "sided" 900), (.ref 539)⟩, ⟨PyData.keyHash P "compare", (.str "compare" 910), (.ref 546)⟩, ⟨PyData.keyHash P "compare_signal", (.str "compare_signal" 920), (.ref 553)⟩, ⟨PyData.keyHash P "rank", (.str "rank" 927), (.ref 560)⟩, ⟨PyData.keyHash P "total_size", (.str "total_size" 936), (.ref 567)⟩, ⟨PyData.keyHash P "total_order", (.str "total_order" 944), (.ref 574)⟩] : List DictEntry) ++ ([⟨PyData.keyHash P "compare_total", (.str "compare_total" 953), (.ref 581)⟩, ⟨PyData.keyHash P "compare_total_mag", (.str "compare_total_mag" 962), (.ref 588)⟩, ⟨PyData.keyHash P "equal", (.str "equal" 971), (.ref 595)⟩, ⟨PyData.keyHash P "less", (.str "less" 980), (.ref 602)⟩, ⟨PyData.keyHash P "at_most", (.str "at_most" 989), (.ref 609)⟩, ⟨PyData.keyHash P "is_quiet", (.str "is_quiet" 996), (.ref 616)⟩, ⟨PyData.keyHash P "picked", (.str "picked" 1009), (.ref 623)⟩, ⟨PyData.keyHash P "size_by", (.str "size_by" 1017), (.ref 630)⟩, ⟨PyData.keyHash P "greater_of", (.str "greater_of" 1026), (.ref 637)⟩, ⟨PyData.keyHash P "lesser_of", (.str "lesser_of" 1035), (.ref 644)⟩, ⟨PyData.keyHash P "greater_mag", (.str "greater_mag" 1044), (.ref 651)⟩, ⟨PyData.keyHash P "lesser_mag", (.str "lesser_mag" 1053), (.ref 658)⟩] : List DictEntry) ++ ([⟨PyData.keyHash P "is_low", (.str "is_low" 1061), (.ref 665)⟩, ⟨PyData.keyHash P "is_subnormal", (.str "is_subnormal" 1069), (.ref 672)⟩, ⟨PyData.keyHash P "is_normal", (.str "is_normal" 1077), (.ref 679)⟩, ⟨PyData.keyHash P "number_class", (.str "number_class" 1086), (.ref 686)⟩, ⟨PyData.keyHash P "with_sign", (.str "with_sign" 1096), (.ref 1279)⟩, ⟨PyData.keyHash P "with_sign_copies", (.str "with_sign_copies" 1097), (.ref 693)⟩, ⟨PyData.keyHash P "answer_to", (.str "answer_to" 1105), (.ref 700)⟩, ⟨PyData.keyHash P "copy_of", (.str "copy_of" 1113), (.ref 707)⟩, ⟨PyData.keyHash P "greatest", (.str "greatest" 1123), (.ref 714)⟩, ⟨PyData.keyHash P "stepped", (.str "stepped" 1134), (.ref 721)⟩, ⟨PyData.keyHash P "neighbour", (.str "neighbour" 1146), (.ref 728)⟩, ⟨PyData.keyHash P "next_plus", (.str "next_plus" 1155), (.ref 735)⟩] : List DictEntry) ++ ([⟨PyData.keyHash P "next_minus", (.str "next_minus" 1164), (.ref 742)⟩, ⟨PyData.keyHash P "moved_by", (.str "moved_by" 1172), (.ref 749)⟩, ⟨PyData.keyHash P "next_toward", (.str "next_toward" 1184), (.ref 756)⟩, ⟨PyData.keyHash P "logb", (.str "logb" 1193), (.ref 763)⟩, ⟨PyData.keyHash P "is_step", (.str "is_step" 1201), (.ref 770)⟩, ⟨PyData.keyHash P "signed", (.str "signed" 1208), (.ref 777)⟩, ⟨PyData.keyHash P "scaleb", (.str "scaleb" 1218), (.ref 784)⟩, ⟨PyData.keyHash P "PLAIN_places", (.str "PLAIN_places" 1222), (.str "InvalidOperation" 1221)⟩, ⟨PyData.keyHash P "placed", (.str "placed" 1234), (.ref 791)⟩, ⟨PyData.keyHash P "quantize", (.str "quantize" 1249), (.ref 798)⟩, ⟨PyData.keyHash P "same_quantum", (.str "same_quantum" 1258), (.ref 805)⟩, ⟨PyData.keyHash P "to_integral_exact", (.str "to_integral_exact" 1269), (.ref 812)⟩] : List DictEntry) ++ ([⟨PyData.keyHash P "to_integral_value", (.str "to_integral_value" 1278), (.ref 819)⟩, ⟨PyData.keyHash P "normalize", (.str "normalize" 1292), (.ref 826)⟩, ⟨PyData.keyHash P "GUARD", (.str "GUARD" 1296), (.int (12) 1295)⟩, ⟨PyData.keyHash P "DEEP", (.str "DEEP" 1298), (.int (24) 1297)⟩, ⟨PyData.keyHash P "GREAT_roots", (.str "GREAT_roots" 1300), (.int (19) 1299)⟩, ⟨PyData.keyHash P "unity", (.str "unity" 1306), (.ref 833)⟩, ⟨PyData.keyHash P "root_floor", (.str "root_floor" 1315), (.ref 840)⟩, ⟨PyData.keyHash P "sqrt", (.str "sqrt" 1330), (.ref 847)⟩, ⟨PyData.keyHash P "odd_sum", (.str "odd_sum" 1341), (.ref 854)⟩, ⟨PyData.keyHash P "ten_log", (.str "ten_log" 1349), (.ref 861)⟩, ⟨PyData.keyHash P "log_bounds", (.str "log_bounds" 1370), (.ref 868)⟩, ⟨PyData.keyHash P "exp_sum", (.str "exp_sum" 1382), (.ref 875)⟩] : List DictEntry) ++ ([⟨PyData.keyHash P "exp_bounds", (.str "exp_bounds" 1398), (.ref 882)⟩, ⟨PyData.keyHash P "told_digits", (.str "told_digits" 1410), (.ref 889)⟩, ⟨PyData.keyHash P "far_told", (.str "far_told" 1419), (.ref 896)⟩, ⟨PyData.keyHash P "near_one", (.str "near_one" 1428), (.ref 903)⟩, ⟨PyData.keyHash P "floor_scaled", (.str "floor_scaled" 1438), (.ref 910)⟩, ⟨PyData.keyHash P "exp", (.str "exp" 1451), (.ref 917)⟩, ⟨PyData.keyHash P "log_size", (.str "log_size" 1459), (.ref 924)⟩, ⟨PyData.keyHash P "turned_bounds", (.str "turned_bounds" 1467), (.ref 931)⟩, ⟨PyData.keyHash P "log_special", (.str "log_special" 1476), (.ref 938)⟩, ⟨PyData.keyHash P "ln", (.str "ln" 1490), (.ref 945)⟩, ⟨PyData.keyHash P "log10", (.str "log10" 1508), (.ref 952)⟩, ⟨PyData.keyHash P "MOST_DEGREE", (.str "MOST_DEGREE" 1512), (.int (400) 1511)⟩] : List DictEntry) ++ ([⟨PyData.keyHash P "is_whole", (.str "is_whole" 1519), (.ref 959)⟩, ⟨PyData.keyHash P "whole_of", (.str "whole_of" 1526), (.ref 966)⟩, ⟨PyData.keyHash P "is_odd", (.str "is_odd" 1533), (.ref 973)⟩, ⟨PyData.keyHash P "raised", (.str "raised" 1542), (.ref 980)⟩, ⟨PyData.keyHash P "common", (.str "common" 1550), (.ref 987)⟩, ⟨PyData.keyHash P "split_by", (.str "split_by" 1559), (.ref 994)⟩, ⟨PyData.keyHash P "exact_root", (.str "exact_root" 1570), (.ref 1001)⟩, ⟨PyData.keyHash P "ratio_of", (.str "ratio_of" 1580), (.ref 1008)⟩, ⟨PyData.keyHash P "exact_parts", (.str "exact_parts" 1598), (.ref 1015)⟩, ⟨PyData.keyHash P "exact_told", (.str "exact_told" 1614), (.ref 1022)⟩, ⟨PyData.keyHash P "bounds_times", (.str "bounds_times" 1624), (.ref 1029)⟩, ⟨PyData.keyHash P "power_finite", (.str "power_finite" 1642), (.ref 1036)⟩] : List DictEntry) ++ ([⟨PyData.keyHash P "power_of_one", (.str "power_of_one" 1654), (.ref 1043)⟩, ⟨PyData.keyHash P "power_of_ends", (.str "power_of_ends" 1664), (.ref 1050)⟩, ⟨PyData.keyHash P "power", (.str "power" 1677), (.ref 1057)⟩, ⟨PyData.keyHash P "modulo_power", (.str "modulo_power" 1687), (.ref 1064)⟩, ⟨PyData.keyHash P "power_modulo", (.str "power_modulo" 1702), (.ref 1071)⟩, ⟨PyData.keyHash P "PLAIN_quotients", (.str "PLAIN_quotients" 1706), (.str "InvalidOperation" 1705)⟩, ⟨PyData.keyHash P "UNDEFINED", (.str "UNDEFINED" 1708), (.str "DivisionUndefined" 1707)⟩, ⟨PyData.keyHash P "IMPOSSIBLE", (.str "IMPOSSIBLE" 1710), (.str "DivisionImpossible" 1709)⟩, ⟨PyData.keyHash P "BY_ZERO", (.str "BY_ZERO" 1712), (.str "DivisionByZero" 1711)⟩, ⟨PyData.keyHash P "shared_divisor", (.str "shared_divisor" 1720), (.ref 1078)⟩, ⟨PyData.keyHash P "without_factor", (.str "without_factor" 1729), (.ref 1085)⟩, ⟨PyData.keyHash P "exact_quotient", (.str "exact_quotient" 1742), (.ref 1092)⟩] : List DictEntry) ++ ([⟨PyData.keyHash P "first_digits", (.str "first_digits" 1754), (.ref 1099)⟩, ⟨PyData.keyHash P "quotient_of", (.str "quotient_of" 1767), (.ref 1106)⟩, ⟨PyData.keyHash P "by_zero", (.str "by_zero" 1775), (.ref 1113)⟩, ⟨PyData.keyHash P "divide", (.str "divide" 1786), (.ref 1120)⟩, ⟨PyData.keyHash P "whole_parts", (.str "whole_parts" 1800), (.ref 1127)⟩, ⟨PyData.keyHash P "divide_int", (.str "divide_int" 1812), (.ref 1134)⟩, ⟨PyData.keyHash P "no_remainder", (.str "no_remainder" 1822), (.ref 1141)⟩, ⟨PyData.keyHash P "remainder", (.str "remainder" 1833), (.ref 1148)⟩, ⟨PyData.keyHash P "both_parts", (.str "both_parts" 1846), (.ref 1155)⟩, ⟨PyData.keyHash P "remainder_near", (.str "remainder_near" 1861), (.ref 1162)⟩, ⟨PyData.keyHash P "last_digits", (.str "last_digits" 1871), (.ref 1169)⟩, ⟨PyData.keyHash P "without_last", (.str "without_last" 1879), (.ref 1176)⟩] : List DictEntry) ++ ([⟨PyData.keyHash P "with_noughts", (.str "with_noughts" 1887), (.ref 1183)⟩, ⟨PyData.keyHash P "early", (.str "early" 1897), (.ref 1190)⟩, ⟨PyData.keyHash P "shift", (.str "shift" 1909), (.ref 1197)⟩, ⟨PyData.keyHash P "rotate", (.str "rotate" 1923), (.ref 1204)⟩, ⟨PyData.keyHash P "bits_of", (.str "bits_of" 1932), (.ref 1211)⟩, ⟨PyData.keyHash P "joined", (.str "joined" 1941), (.ref 1218)⟩, ⟨PyData.keyHash P "combined", (.str "combined" 1947), (.ref 1223)⟩, ⟨PyData.keyHash P "both", (.str "both" 1955), (.ref 1230)⟩, ⟨PyData.keyHash P "either", (.str "either" 1963), (.ref 1237)⟩, ⟨PyData.keyHash P "unlike", (.str "unlike" 1971), (.ref 1244)⟩, ⟨PyData.keyHash P "logical_and", (.str "logical_and" 1980), (.ref 1251)⟩, ⟨PyData.keyHash P "logical_or", (.str "logical_or" 1989), (.ref 1258)⟩] : List DictEntry) ++ ([⟨PyData.keyHash P "logical_xor", (.str "logical_xor" 1998), (.ref 1265)⟩, ⟨PyData.keyHash P "logical_invert", (.str "logical_invert" 2007), (.ref 1272)⟩, ⟨PyData.keyHash P "SPARE", (.str "SPARE" 2011), (.int (3) 2010)⟩, ⟨PyData.keyHash P "with_sign_sums", (.str "with_sign_sums" 2021), (.ref 1279)⟩, ⟨PyData.keyHash P "plus", (.str "plus" 2030), (.ref 1286)⟩, ⟨PyData.keyHash P "minus", (.str "minus" 2039), (.ref 1293)⟩, ⟨PyData.keyHash P "absolute", (.str "absolute" 2047), (.ref 1300)⟩, ⟨PyData.keyHash P "worth", (.str "worth" 2054), (.ref 1307)⟩, ⟨PyData.keyHash P "sum_parts", (.str "sum_parts" 2066), (.ref 1314)⟩, ⟨PyData.keyHash P "added", (.str "added" 2080), (.ref 1321)⟩, ⟨PyData.keyHash P "add", (.str "add" 2090), (.ref 1328)⟩, ⟨PyData.keyHash P "subtract", (.str "subtract" 2100), (.ref 1335)⟩] : List DictEntry) ++ ([⟨PyData.keyHash P "exact_product", (.str "exact_product" 2109), (.ref 1342)⟩, ⟨PyData.keyHash P "multiply", (.str "multiply" 2120), (.ref 1349)⟩, ⟨PyData.keyHash P "fma", (.str "fma" 2134), (.ref 1356)⟩, ⟨PyData.keyHash P "QUESTIONS", (.str "QUESTIONS" 2145), (.ref 1357)⟩, ⟨PyData.keyHash P "COPIES", (.str "COPIES" 2149), (.ref 1358)⟩, ⟨PyData.keyHash P "SINGLE", (.str "SINGLE" 2167), (.ref 1359)⟩, ⟨PyData.keyHash P "DOUBLE", (.str "DOUBLE" 2197), (.ref 1360)⟩, ⟨PyData.keyHash P "is_operation", (.str "is_operation" 2205), (.ref 1367)⟩, ⟨PyData.keyHash P "outcome_of", (.str "outcome_of" 2214), (.ref 1374)⟩, ⟨PyData.keyHash P "with_one", (.str "with_one" 2223), (.ref 1381)⟩, ⟨PyData.keyHash P "with_two", (.str "with_two" 2233), (.ref 1388)⟩, ⟨PyData.keyHash P "first_half", (.str "first_half" 2243), (.ref 1395)⟩] : List DictEntry) ++ ([⟨PyData.keyHash P "second_half", (.str "second_half" 2253), (.ref 1402)⟩, ⟨PyData.keyHash P "MOST", (.str "MOST" 2261), (.int (999999999999999999) 2260)⟩, ⟨PyData.keyHash P "ROUNDINGS", (.str "ROUNDINGS" 2270), (.ref 1403)⟩, ⟨PyData.keyHash P "Context", (.str "Context" 2968), (.ref 1956)⟩] : List DictEntry))⟩ 208), ⟨[]⟩⟩
def o_214_12 (P : Params) : Obj := ⟨.none, none, (.fields ⟨(([(.int (1) 0), (.int (0) 0), (.ref 20), (.int (7) 0), (.int (0) 0), (.ref 29), (.int (12) 0), (.int (0) 0), (.ref 49), (.int (14) 0), (.int (0) 0), (.ref 61)] : List Value) ++ ([(.int (16) 0), (.int (0) 0), (.ref 73), (.int (18) 0), (.int (0) 0), (.ref 85), (.int (20) 0), (.int (0) 0), (.ref 97), (.int (22) 0), (.int (0) 0), (.ref 109)] : List Value) ++ ([(.int (24) 0), (.int (0) 0), (.ref 121), (.int (26) 0), (.int (0) 0), (.ref 133), (.int (28) 0), (.int (0) 0), (.ref 145), (.int (30) 0), (.int (0) 0), (.ref 158)] : List Value) ++ ([(.int (35) 0), (.int (0) 0), (.ref 177), (.int (40) 0), (.int (0) 0), (.ref 196), (.int (45) 0), (.int (0) 0), (.ref 215), (.int (50) 0), (.int (0) 0), (.ref 234)] : List Value) ++ ([(.int (66) 0), (.int (0) 0), (.ref 241), (.int (74) 0), (.int (0) 0), (.ref 248), (.int (101) 0), (.int (0) 0), (.ref 290), (.int (103) 0), (.int (0) 0), (.ref 297)] : List Value) ++ ([(.int (105) 0), (.int (0) 0), (.ref 304), (.int (107) 0), (.int (0) 0), (.ref 311), (.int (109) 0), (.int (0) 0), (.ref 318), (.int (111) 0), (.int (0) 0), (.ref 325)] : List Value) ++ ([(.int (113) 0), (.int (0) 0), (.ref 332), (.int (115) 0), (.int (0) 0), (.ref 339), (.int (121) 0), (.int (0) 0), (.ref 346), (.int (123) 0), (.int (0) 0), (.ref 353)] : List Value) ++ ([(.int (125) 0), (.int (0) 0), (.ref 360), (.int (132) 0), (.int (0) 0), (.ref 367), (.int (138) 0), (.int (0) 0), (.ref 372), (.int (145) 0), (.int (0) 0), (.ref 379)] : List Value) ++ ([(.int (154) 0), (.int (0) 0), (.ref 386), (.int (157) 0), (.int (0) 0), (.ref 393), (.int (165) 0), (.int (0) 0), (.ref 400), (.int (182) 0), (.int (0) 0), (.ref 442)] : List Value) ++ ([(.int (188) 0), (.int (0) 0), (.ref 449), (.int (198) 0), (.int (0) 0), (.ref 456), (.int (204) 0), (.int (0) 0), (.ref 463), (.int (208) 0), (.int (0) 0), (.ref 470)] : List Value) ++ ([(.int (219) 0), (.int (0) 0), (.ref 477), (.int (233) 0), (.int (0) 0), (.ref 484), (.int (235) 0), (.int (0) 0), (.ref 491), (.int (238) 0), (.int (0) 0), (.ref 498)] : List Value) ++ ([(.int (244) 0), (.int (0) 0), (.ref 503), (.int (252) 0), (.int (0) 0), (.ref 510), (.int (254) 0), (.int (0) 0), (.ref 517), (.int (258) 0), (.int (0) 0), (.ref 524)] : List Value) ++ ([(.int (260) 0), (.int (0) 0), (.ref 531), (.int (262) 0), (.int (0) 0), (.ref 538), (.int (264) 0), (.int (0) 0), (.ref 545), (.int (267) 0), (.int (0) 0), (.ref 552)] : List Value) ++ ([(.int (272) 0), (.int (0) 0), (.ref 559), (.int (276) 0), (.int (0) 0), (.ref 566), (.int (285) 0), (.int (0) 0), (.ref 573), (.int (289) 0), (.int (0) 0), (.ref 580)] : List Value) ++ ([(.int (291) 0), (.int (0) 0), (.ref 587), (.int (293) 0), (.int (0) 0), (.ref 594), (.int (297) 0), (.int (0) 0), (.ref 601), (.int (301) 0), (.int (0) 0), (.ref 608)] : List Value) ++ ([(.int (305) 0), (.int (0) 0), (.ref 615), (.int (307) 0), (.int (0) 0), (.ref 622), (.int (319) 0), (.int (0) 0), (.ref 629), (.int (321) 0), (.int (0) 0), (.ref 636)] : List Value) ++ ([(.int (323) 0), (.int (0) 0), (.ref 643), (.int (325) 0), (.int (0) 0), (.ref 650), (.int (327) 0), (.int (0) 0), (.ref 657), (.int (329) 0), (.int (0) 0), (.ref 664)] : List Value) ++ ([(.int (331) 0), (.int (0) 0), (.ref 671), (.int (333) 0), (.int (0) 0), (.ref 678), (.int (335) 0), (.int (0) 0), (.ref 685), (.int (346) 0), (.int (0) 0), (.ref 692)] : List Value) ++ ([(.int (349) 0), (.int (0) 0), (.ref 699), (.int (363) 0), (.int (0) 0), (.ref 706), (.int (368) 0), (.int (0) 0), (.ref 713), (.int (370) 0), (.int (0) 0), (.ref 720)] : List Value) ++ ([(.int (380) 0), (.int (0) 0), (.ref 727), (.int (386) 0), (.int (0) 0), (.ref 734), (.int (389) 0), (.int (0) 0), (.ref 741), (.int (392) 0), (.int (0) 0), (.ref 748)] : List Value) ++ ([(.int (398) 0), (.int (0) 0), (.ref 755), (.int (407) 0), (.int (0) 0), (.ref 762), (.int (416) 0), (.int (0) 0), (.ref 769), (.int (418) 0), (.int (0) 0), (.ref 776)] : List Value) ++ ([(.int (420) 0), (.int (0) 0), (.ref 783), (.int (431) 0), (.int (0) 0), (.ref 790), (.int (437) 0), (.int (0) 0), (.ref 797), (.int (455) 0), (.int (0) 0), (.ref 804)] : List Value) ++ ([(.int (459) 0), (.int (0) 0), (.ref 811), (.int (469) 0), (.int (0) 0), (.ref 818), (.int (472) 0), (.int (0) 0), (.ref 825), (.int (490) 0), (.int (0) 0), (.ref 832)] : List Value) ++ ([(.int (492) 0), (.int (0) 0), (.ref 839), (.int (499) 0), (.int (0) 0), (.ref 846), (.int (517) 0), (.int (0) 0), (.ref 853), (.int (523) 0), (.int (0) 0), (.ref 860)] : List Value) ++ ([(.int (526) 0), (.int (0) 0), (.ref 867), (.int (540) 0), (.int (0) 0), (.ref 874), (.int (547) 0), (.int (0) 0), (.ref 881), (.int (555) 0), (.int (0) 0), (.ref 888)] : List Value) ++ ([(.int (561) 0), (.int (0) 0), (.ref 895), (.int (565) 0), (.int (0) 0), (.ref 902), (.int (569) 0), (.int (0) 0), (.ref 909), (.int (572) 0), (.int (0) 0), (.ref 916)] : List Value) ++ ([(.int (592) 0), (.int (0) 0), (.ref 923), (.int (597) 0), (.int (0) 0), (.ref 930), (.int (599) 0), (.int (0) 0), (.ref 937), (.int (608) 0), (.int (0) 0), (.ref 944)] : List Value) ++ ([(.int (622) 0), (.int (0) 0), (.ref 951), (.int (640) 0), (.int (0) 0), (.ref 958), (.int (646) 0), (.int (0) 0), (.ref 965), (.int (650) 0), (.int (0) 0), (.ref 972)] : List Value) ++ ([(.int (652) 0), (.int (0) 0), (.ref 979), (.int (659) 0), (.int (0) 0), (.ref 986), (.int (663) 0), (.int (0) 0), (.ref 993), (.int (668) 0), (.int (0) 0), (.ref 1000)] : List Value) ++ ([(.int (681) 0), (.int (0) 0), (.ref 1007), (.int (685) 0), (.int (0) 0), (.ref 1014), (.int (700) 0), (.int (0) 0), (.ref 1021), (.int (710) 0), (.int (0) 0), (.ref 1028)] : List Value) ++ ([(.int (718) 0), (.int (0) 0), (.ref 1035), (.int (735) 0), (.int (0) 0), (.ref 1042), (.int (745) 0), (.int (0) 0), (.ref 1049), (.int (748) 0), (.int (0) 0), (.ref 1056)] : List Value) ++ ([(.int (766) 0), (.int (0) 0), (.ref 1063), (.int (774) 0), (.int (0) 0), (.ref 1070), (.int (799) 0), (.int (0) 0), (.ref 1077), (.int (803) 0), (.int (0) 0), (.ref 1084)] : List Value) ++ ([(.int (809) 0), (.int (0) 0), (.ref 1091), (.int (817) 0), (.int (0) 0), (.ref 1098), (.int (821) 0), (.int (0) 0), (.ref 1105), (.int (828) 0), (.int (0) 0), (.ref 1112)] : List Value) ++ ([(.int (830) 0), (.int (0) 0), (.ref 1119), (.int (843) 0), (.int (0) 0), (.ref 1126), (.int (855) 0), (.int (0) 0), (.ref 1133), (.int (867) 0), (.int (0) 0), (.ref 1140)] : List Value) ++ ([(.int (878) 0), (.int (0) 0), (.ref 1147), (.int (886) 0), (.int (0) 0), (.ref 1154), (.int (890) 0), (.int (0) 0), (.ref 1161), (.int (908) 0), (.int (0) 0), (.ref 1168)] : List Value) ++ ([(.int (910) 0), (.int (0) 0), (.ref 1175), (.int (912) 0), (.int (0) 0), (.ref 1182), (.int (914) 0), (.int (0) 0), (.ref 1189), (.int (921) 0), (.int (0) 0), (.ref 1196)] : List Value) ++ ([(.int (931) 0), (.int (0) 0), (.ref 1203), (.int (939) 0), (.int (0) 0), (.ref 1210), (.int (944) 0), (.int (0) 0), (.ref 1217), (.int (949) 0), (.int (0) 0), (.ref 1222)] : List Value) ++ ([(.int (956) 0), (.int (0) 0), (.ref 1229), (.int (958) 0), (.int (0) 0), (.ref 1236), (.int (960) 0), (.int (0) 0), (.ref 1243), (.int (962) 0), (.int (0) 0), (.ref 1250)] : List Value) ++ ([(.int (964) 0), (.int (0) 0), (.ref 1257), (.int (966) 0), (.int (0) 0), (.ref 1264), (.int (968) 0), (.int (0) 0), (.ref 1271), (.int (975) 0), (.int (0) 0), (.ref 1278)] : List Value) ++ ([(.int (980) 0), (.int (0) 0), (.ref 1285), (.int (983) 0), (.int (0) 0), (.ref 1292), (.int (986) 0), (.int (0) 0), (.ref 1299), (.int (988) 0), (.int (0) 0), (.ref 1306)] : List Value) ++ ([(.int (990) 0), (.int (0) 0), (.ref 1313), (.int (1001) 0), (.int (0) 0), (.ref 1320), (.int (1012) 0), (.int (0) 0), (.ref 1327), (.int (1015) 0), (.int (0) 0), (.ref 1334)] : List Value) ++ ([(.int (1018) 0), (.int (0) 0), (.ref 1341), (.int (1023) 0), (.int (0) 0), (.ref 1348), (.int (1029) 0), (.int (0) 0), (.ref 1355), (.int (1041) 0), (.int (0) 0), (.ref 1366)] : List Value) ++ ([(.int (1049) 0), (.int (0) 0), (.ref 1373), (.int (1063) 0), (.int (0) 0), (.ref 1380), (.int (1097) 0), (.int (0) 0), (.ref 1387), (.int (1101) 0), (.int (0) 0), (.ref 1394)] : List Value) ++ ([(.int (1133) 0), (.int (0) 0), (.ref 1401), (.int (1162) 0), (.int (0) 0), (.ref 1409)] : List Value))⟩), ⟨[]⟩⟩
def o_214_1404 (P : Params) : Obj := ⟨(.type "tuple"), none, (.seq ⟨([] : List Value)⟩ 0), ⟨[]⟩⟩
def o_214_1405 (P : Params) : Obj := ⟨(.type "builtin_function_or_method"), none, (.fields ⟨(([(.builtin "type.__prepare__"), (.type "type")] : List Value))⟩), ⟨[]⟩⟩
def o_214_1406 (P : Params) : Obj := ⟨(.type "dict"), none, (.dict ⟨(([⟨PyData.keyHash P "__module__", (.str "__module__" 2278), (.str "tenwhole.contexts" 2254)⟩, ⟨PyData.keyHash P "__qualname__", (.str "__qualname__" 2280), (.str "Context" 2279)⟩, ⟨PyData.keyHash P "__firstlineno__", (.str "__firstlineno__" 2282), (.int (1162) 2281)⟩, ⟨PyData.keyHash P "__init__", (.str "__init__" 2313), (.ref 1419)⟩, ⟨PyData.keyHash P "etiny", (.str "etiny" 2320), (.ref 1426)⟩, ⟨PyData.keyHash P "etop", (.str "etop" 2327), (.ref 1433)⟩, ⟨PyData.keyHash P "flags", (.str "flags" 2334), (.ref 1440)⟩, ⟨PyData.keyHash P "traps", (.str "traps" 2341), (.ref 1447)⟩, ⟨PyData.keyHash P "set_flags", (.str "set_flags" 2349), (.ref 1454)⟩, ⟨PyData.keyHash P "set_traps", (.str "set_traps" 2357), (.ref 1461)⟩, ⟨PyData.keyHash P "clear_flags", (.str "clear_flags" 2364), (.ref 1468)⟩, ⟨PyData.keyHash P "clear_traps", (.str "clear_traps" 2371), (.ref 1475)⟩] : List DictEntry) ++ ([⟨PyData.keyHash P "copy", (.str "copy" 2379), (.ref 1482)⟩, ⟨PyData.keyHash P "told", (.str "told" 2385), (.ref 1487)⟩, ⟨PyData.keyHash P "settled", (.str "settled" 2391), (.ref 1492)⟩, ⟨PyData.keyHash P "noted", (.str "noted" 2397), (.ref 1497)⟩, ⟨PyData.keyHash P "create_decimal", (.str "create_decimal" 2405), (.ref 1504)⟩, ⟨PyData.keyHash P "round_to", (.str "round_to" 2414), (.ref 1511)⟩, ⟨PyData.keyHash P "radix", (.str "radix" 2421), (.ref 1518)⟩, ⟨PyData.keyHash P "to_sci_string", (.str "to_sci_string" 2429), (.ref 1525)⟩, ⟨PyData.keyHash P "to_eng_string", (.str "to_eng_string" 2437), (.ref 1532)⟩, ⟨PyData.keyHash P "formatted", (.str "formatted" 2446), (.ref 1539)⟩, ⟨PyData.keyHash P "fma", (.str "fma" 2456), (.ref 1546)⟩, ⟨PyData.keyHash P "power", (.str "power" 2466), (.ref 1554)⟩] : List DictEntry) ++ ([⟨PyData.keyHash P "copy_sign", (.str "copy_sign" 2475), (.ref 1561)⟩, ⟨PyData.keyHash P "is_finite", (.str "is_finite" 2483), (.ref 1568)⟩, ⟨PyData.keyHash P "is_infinite", (.str "is_infinite" 2491), (.ref 1575)⟩, ⟨PyData.keyHash P "is_nan", (.str "is_nan" 2499), (.ref 1582)⟩, ⟨PyData.keyHash P "is_qnan", (.str "is_qnan" 2507), (.ref 1589)⟩, ⟨PyData.keyHash P "is_snan", (.str "is_snan" 2515), (.ref 1596)⟩, ⟨PyData.keyHash P "is_signed", (.str "is_signed" 2523), (.ref 1603)⟩, ⟨PyData.keyHash P "is_zero", (.str "is_zero" 2531), (.ref 1610)⟩, ⟨PyData.keyHash P "is_canonical", (.str "is_canonical" 2539), (.ref 1617)⟩, ⟨PyData.keyHash P "copy_abs", (.str "copy_abs" 2547), (.ref 1624)⟩, ⟨PyData.keyHash P "copy_negate", (.str "copy_negate" 2555), (.ref 1631)⟩, ⟨PyData.keyHash P "canonical", (.str "canonical" 2563), (.ref 1638)⟩] : List DictEntry) ++ ([⟨PyData.keyHash P "plus", (.str "plus" 2571), (.ref 1645)⟩, ⟨PyData.keyHash P "absolute", (.str "absolute" 2579), (.ref 1652)⟩, ⟨PyData.keyHash P "minus", (.str "minus" 2587), (.ref 1659)⟩, ⟨PyData.keyHash P "to_integral_exact", (.str "to_integral_exact" 2595), (.ref 1666)⟩, ⟨PyData.keyHash P "to_integral_value", (.str "to_integral_value" 2603), (.ref 1673)⟩, ⟨PyData.keyHash P "normalize", (.str "normalize" 2611), (.ref 1680)⟩, ⟨PyData.keyHash P "number_class", (.str "number_class" 2619), (.ref 1687)⟩, ⟨PyData.keyHash P "is_normal", (.str "is_normal" 2627), (.ref 1694)⟩, ⟨PyData.keyHash P "is_subnormal", (.str "is_subnormal" 2635), (.ref 1701)⟩, ⟨PyData.keyHash P "next_plus", (.str "next_plus" 2643), (.ref 1708)⟩, ⟨PyData.keyHash P "next_minus", (.str "next_minus" 2651), (.ref 1715)⟩, ⟨PyData.keyHash P "logb", (.str "logb" 2659), (.ref 1722)⟩] : List DictEntry) ++ ([⟨PyData.keyHash P "logical_invert", (.str "logical_invert" 2667), (.ref 1729)⟩, ⟨PyData.keyHash P "sqrt", (.str "sqrt" 2675), (.ref 1736)⟩, ⟨PyData.keyHash P "exp", (.str "exp" 2683), (.ref 1743)⟩, ⟨PyData.keyHash P "ln", (.str "ln" 2691), (.ref 1750)⟩, ⟨PyData.keyHash P "log10", (.str "log10" 2699), (.ref 1757)⟩, ⟨PyData.keyHash P "add", (.str "add" 2708), (.ref 1764)⟩, ⟨PyData.keyHash P "subtract", (.str "subtract" 2717), (.ref 1771)⟩, ⟨PyData.keyHash P "multiply", (.str "multiply" 2726), (.ref 1778)⟩, ⟨PyData.keyHash P "divide", (.str "divide" 2735), (.ref 1785)⟩, ⟨PyData.keyHash P "divide_int", (.str "divide_int" 2744), (.ref 1792)⟩, ⟨PyData.keyHash P "remainder", (.str "remainder" 2753), (.ref 1799)⟩, ⟨PyData.keyHash P "divide_both", (.str "divide_both" 2762), (.ref 1806)⟩] : List DictEntry) ++ ([⟨PyData.keyHash P "remainder_near", (.str "remainder_near" 2771), (.ref 1813)⟩, ⟨PyData.keyHash P "quantize", (.str "quantize" 2780), (.ref 1820)⟩, ⟨PyData.keyHash P "same_quantum", (.str "same_quantum" 2789), (.ref 1827)⟩, ⟨PyData.keyHash P "compare", (.str "compare" 2798), (.ref 1834)⟩, ⟨PyData.keyHash P "compare_signal", (.str "compare_signal" 2807), (.ref 1841)⟩, ⟨PyData.keyHash P "compare_total", (.str "compare_total" 2816), (.ref 1848)⟩, ⟨PyData.keyHash P "compare_total_mag", (.str "compare_total_mag" 2825), (.ref 1855)⟩, ⟨PyData.keyHash P "equal", (.str "equal" 2834), (.ref 1862)⟩, ⟨PyData.keyHash P "less", (.str "less" 2843), (.ref 1869)⟩, ⟨PyData.keyHash P "at_most", (.str "at_most" 2852), (.ref 1876)⟩, ⟨PyData.keyHash P "maximum", (.str "maximum" 2861), (.ref 1883)⟩, ⟨PyData.keyHash P "minimum", (.str "minimum" 2870), (.ref 1890)⟩] : List DictEntry) ++ ([⟨PyData.keyHash P "max_mag", (.str "max_mag" 2879), (.ref 1897)⟩, ⟨PyData.keyHash P "min_mag", (.str "min_mag" 2888), (.ref 1904)⟩, ⟨PyData.keyHash P "next_toward", (.str "next_toward" 2897), (.ref 1911)⟩, ⟨PyData.keyHash P "scaleb", (.str "scaleb" 2906), (.ref 1918)⟩, ⟨PyData.keyHash P "shift", (.str "shift" 2915), (.ref 1925)⟩, ⟨PyData.keyHash P "rotate", (.str "rotate" 2924), (.ref 1932)⟩, ⟨PyData.keyHash P "logical_and", (.str "logical_and" 2933), (.ref 1939)⟩, ⟨PyData.keyHash P "logical_or", (.str "logical_or" 2942), (.ref 1946)⟩, ⟨PyData.keyHash P "logical_xor", (.str "logical_xor" 2951), (.ref 1953)⟩, ⟨PyData.keyHash P "__static_attributes__", (.str "__static_attributes__" 2961), (.ref 1954)⟩] : List DictEntry))⟩ 82), ⟨[]⟩⟩
def o_214_1407 (P : Params) : Obj := ⟨(.type "tuple"), none, (.seq ⟨([] : List Value)⟩ 0), ⟨[]⟩⟩
def o_214_1408 (P : Params) : Obj := ⟨.none, none, (.fields ⟨(([(.int (1164) 0), (.int (4) 0), (.ref 1418), (.int (1182) 0), (.int (4) 0), (.ref 1425), (.int (1185) 0), (.int (4) 0), (.ref 1432), (.int (1188) 0), (.int (4) 0), (.ref 1439)] : List Value) ++ ([(.int (1191) 0), (.int (4) 0), (.ref 1446), (.int (1194) 0), (.int (4) 0), (.ref 1453), (.int (1197) 0), (.int (4) 0), (.ref 1460), (.int (1200) 0), (.int (4) 0), (.ref 1467)] : List Value) ++ ([(.int (1203) 0), (.int (4) 0), (.ref 1474), (.int (1206) 0), (.int (4) 0), (.ref 1481), (.int (1211) 0), (.int (4) 0), (.ref 1486), (.int (1217) 0), (.int (4) 0), (.ref 1491)] : List Value) ++ ([(.int (1220) 0), (.int (4) 0), (.ref 1496), (.int (1229) 0), (.int (4) 0), (.ref 1503), (.int (1232) 0), (.int (4) 0), (.ref 1510), (.int (1235) 0), (.int (4) 0), (.ref 1517)] : List Value) ++ ([(.int (1238) 0), (.int (4) 0), (.ref 1524), (.int (1241) 0), (.int (4) 0), (.ref 1531), (.int (1244) 0), (.int (4) 0), (.ref 1538), (.int (1247) 0), (.int (4) 0), (.ref 1545)] : List Value) ++ ([(.int (1250) 0), (.int (4) 0), (.ref 1553), (.int (1255) 0), (.int (4) 0), (.ref 1560), (.int (1258) 0), (.int (4) 0), (.ref 1567), (.int (1261) 0), (.int (4) 0), (.ref 1574)] : List Value) ++ ([(.int (1264) 0), (.int (4) 0), (.ref 1581), (.int (1267) 0), (.int (4) 0), (.ref 1588), (.int (1270) 0), (.int (4) 0), (.ref 1595), (.int (1273) 0), (.int (4) 0), (.ref 1602)] : List Value) ++ ([(.int (1276) 0), (.int (4) 0), (.ref 1609), (.int (1279) 0), (.int (4) 0), (.ref 1616), (.int (1282) 0), (.int (4) 0), (.ref 1623), (.int (1285) 0), (.int (4) 0), (.ref 1630)] : List Value) ++ ([(.int (1288) 0), (.int (4) 0), (.ref 1637), (.int (1291) 0), (.int (4) 0), (.ref 1644), (.int (1294) 0), (.int (4) 0), (.ref 1651), (.int (1297) 0), (.int (4) 0), (.ref 1658)] : List Value) ++ ([(.int (1300) 0), (.int (4) 0), (.ref 1665), (.int (1303) 0), (.int (4) 0), (.ref 1672), (.int (1306) 0), (.int (4) 0), (.ref 1679), (.int (1309) 0), (.int (4) 0), (.ref 1686)] : List Value) ++ ([(.int (1312) 0), (.int (4) 0), (.ref 1693), (.int (1315) 0), (.int (4) 0), (.ref 1700), (.int (1318) 0), (.int (4) 0), (.ref 1707), (.int (1321) 0), (.int (4) 0), (.ref 1714)] : List Value) ++ ([(.int (1324) 0), (.int (4) 0), (.ref 1721), (.int (1327) 0), (.int (4) 0), (.ref 1728), (.int (1330) 0), (.int (4) 0), (.ref 1735), (.int (1333) 0), (.int (4) 0), (.ref 1742)] : List Value) ++ ([(.int (1336) 0), (.int (4) 0), (.ref 1749), (.int (1339) 0), (.int (4) 0), (.ref 1756), (.int (1342) 0), (.int (4) 0), (.ref 1763), (.int (1345) 0), (.int (4) 0), (.ref 1770)] : List Value) ++ ([(.int (1348) 0), (.int (4) 0), (.ref 1777), (.int (1351) 0), (.int (4) 0), (.ref 1784), (.int (1354) 0), (.int (4) 0), (.ref 1791), (.int (1357) 0), (.int (4) 0), (.ref 1798)] : List Value) ++ ([(.int (1360) 0), (.int (4) 0), (.ref 1805), (.int (1363) 0), (.int (4) 0), (.ref 1812), (.int (1366) 0), (.int (4) 0), (.ref 1819), (.int (1369) 0), (.int (4) 0), (.ref 1826)] : List Value) ++ ([(.int (1372) 0), (.int (4) 0), (.ref 1833), (.int (1375) 0), (.int (4) 0), (.ref 1840), (.int (1378) 0), (.int (4) 0), (.ref 1847), (.int (1381) 0), (.int (4) 0), (.ref 1854)] : List Value) ++ ([(.int (1384) 0), (.int (4) 0), (.ref 1861), (.int (1387) 0), (.int (4) 0), (.ref 1868), (.int (1390) 0), (.int (4) 0), (.ref 1875), (.int (1393) 0), (.int (4) 0), (.ref 1882)] : List Value) ++ ([(.int (1396) 0), (.int (4) 0), (.ref 1889), (.int (1399) 0), (.int (4) 0), (.ref 1896), (.int (1402) 0), (.int (4) 0), (.ref 1903), (.int (1405) 0), (.int (4) 0), (.ref 1910)] : List Value) ++ ([(.int (1408) 0), (.int (4) 0), (.ref 1917), (.int (1411) 0), (.int (4) 0), (.ref 1924), (.int (1414) 0), (.int (4) 0), (.ref 1931), (.int (1417) 0), (.int (4) 0), (.ref 1938)] : List Value) ++ ([(.int (1420) 0), (.int (4) 0), (.ref 1945), (.int (1423) 0), (.int (4) 0), (.ref 1952)] : List Value))⟩), ⟨[]⟩⟩
def o_214_1409 (P : Params) : Obj := ⟨(.type "code"), none, (.fields ⟨(([(.str "Context" 2273), (.str "Context" 2274), (.str "/claim/cut.py" 2275), (.int (1162) 0), (.int (0) 0), (.int (0) 0), (.int (0) 0), (.int (0) 0), (.ref 1407), (.bool false), (.int (181) 0), (.ref 1408)] : List Value) ++ ([.none, .none, .none, .none, (.int (2276) 0), (.int (1162) 0), (.str "/claim/cut.py" 2277)] : List Value))⟩), ⟨[]⟩⟩
def o_214_1410 (P : Params) : Obj := ⟨(.type "frame"), none, .plain, ⟨[(some (.ref 1409)), (some (.ref 3)), (some (.ref 1406)), none, (some (.str "tenwhole.contexts" 2254)), none, (some (.ref 0))]⟩⟩
def o_214_1411 (P : Params) : Obj := ⟨(.type "tuple"), none, (.seq ⟨(([(.str "DivisionByZero" 2290), (.str "InvalidOperation" 2291), (.str "Overflow" 2292)] : List Value))⟩ 0), ⟨[]⟩⟩
def o_214_1412 (P : Params) : Obj := ⟨(.type "dict"), none, (.dict ⟨(([⟨PyData.keyHash P "prec", (.str "prec" 2293), (.int (28) 2283)⟩, ⟨PyData.keyHash P "rounding", (.str "rounding" 2294), (.str "half_even" 2284)⟩, ⟨PyData.keyHash P "emin", (.str "emin" 2295), (.int (-999999) 2286)⟩, ⟨PyData.keyHash P "emax", (.str "emax" 2296), (.int (999999) 2287)⟩, ⟨PyData.keyHash P "capitals", (.str "capitals" 2297), (.int (1) 2288)⟩, ⟨PyData.keyHash P "clamp", (.str "clamp" 2298), (.int (0) 2289)⟩, ⟨PyData.keyHash P "traps", (.str "traps" 2299), (.ref 1411)⟩] : List DictEntry))⟩ 7), ⟨[]⟩⟩
def o_214_1413 (P : Params) : Obj := ⟨(.type "tuple"), none, (.seq ⟨([] : List Value)⟩ 0), ⟨[]⟩⟩
def o_214_1414 (P : Params) : Obj := ⟨.none, none, (.fields ⟨([] : List Value)⟩), ⟨[]⟩⟩
def o_214_1415 (P : Params) : Obj := ⟨(.type "tuple"), none, (.seq ⟨(([(.str "self" 2303), (.str "prec" 2304), (.str "rounding" 2305), (.str "emin" 2306), (.str "emax" 2307), (.str "capitals" 2308), (.str "clamp" 2309), (.str "traps" 2310)] : List Value))⟩ 0), ⟨[]⟩⟩
def o_214_1416 (P : Params) : Obj := ⟨(.type "tuple"), none, (.seq ⟨([] : List Value)⟩ 0), ⟨[]⟩⟩
def o_214_1417 (P : Params) : Obj := ⟨.none, none, (.func ⟨"__init__", "Context.__init__", defArgs (inClass (top 213) 0), .stmts (defBody (inClass (top 213) 0)), defScope (inClass (top 213) 0), 0, [], .none, .none, .none, .none, none, .none, .none, 0⟩), ⟨[]⟩⟩
def o_214_1418 (P : Params) : Obj := ⟨(.type "code"), none, (.fields ⟨(([(.str "__init__" 2300), (.str "Context.__init__" 2301), (.str "/claim/cut.py" 2302), (.int (1164) 0), (.int (1) 0), (.int (0) 0), (.int (7) 0), (.int (3) 0), (.ref 1413), (.bool true), (.int (181) 0), (.ref 1414)] : List Value) ++ ([.none, (.ref 1415), (.ref 1416), (.ref 1417), (.int (2311) 0), (.int (1164) 0), (.str "/claim/cut.py" 2312)] : List Value))⟩), ⟨[]⟩⟩
def o_214_1419 (P : Params) : Obj := ⟨(.type "function"), none, (.func ⟨"__init__", "Context.__init__", defArgs (inClass (top 213) 0), .stmts (defBody (inClass (top 213) 0)), defScope (inClass (top 213) 0), 3, [], .none, (.ref 1412), .none, (.str "tenwhole.contexts" 2254), none, (.ref 1418), .none, 0⟩), ⟨[]⟩⟩
def o_214_1420 (P : Params) : Obj := ⟨(.type "tuple"), none, (.seq ⟨([] : List Value)⟩ 0), ⟨[]⟩⟩
def o_214_1421 (P : Params) : Obj := ⟨.none, none, (.fields ⟨([] : List Value)⟩), ⟨[]⟩⟩
def o_214_1422 (P : Params) : Obj := ⟨(.type "tuple"), none, (.seq ⟨(([(.str "self" 2317)] : List Value))⟩ 0), ⟨[]⟩⟩
def o_214_1423 (P : Params) : Obj := ⟨(.type "tuple"), none, (.seq ⟨([] : List Value)⟩ 0), ⟨[]⟩⟩
def o_214_1424 (P : Params) : Obj := ⟨.none, none, (.func ⟨"etiny", "Context.etiny", defArgs (inClass (top 213) 1), .stmts (defBody (inClass (top 213) 1)), defScope (inClass (top 213) 1), 0, [], .none, .none, .none, .none, none, .none, .none, 0⟩), ⟨[]⟩⟩
def o_214_1425 (P : Params) : Obj := ⟨(.type "code"), none, (.fields ⟨(([(.str "etiny" 2314), (.str "Context.etiny" 2315), (.str "/claim/cut.py" 2316), (.int (1182) 0), (.int (1) 0), (.int (0) 0), (.int (0) 0), (.int (3) 0), (.ref 1420), (.bool true), (.int (181) 0), (.ref 1421)] : List Value) ++ ([.none, (.ref 1422), (.ref 1423), (.ref 1424), (.int (2318) 0), (.int (1182) 0), (.str "/claim/cut.py" 2319)] : List Value))⟩), ⟨[]⟩⟩
def o_214_1426 (P : Params) : Obj := ⟨(.type "function"), none, (.func ⟨"etiny", "Context.etiny", defArgs (inClass (top 213) 1), .stmts (defBody (inClass (top 213) 1)), defScope (inClass (top 213) 1), 3, [], .none, .none, .none, (.str "tenwhole.contexts" 2254), none, (.ref 1425), .none, 0⟩), ⟨[]⟩⟩
def o_214_1427 (P : Params) : Obj := ⟨(.type "tuple"), none, (.seq ⟨([] : List Value)⟩ 0), ⟨[]⟩⟩
def o_214_1428 (P : Params) : Obj := ⟨.none, none, (.fields ⟨([] : List Value)⟩), ⟨[]⟩⟩
def o_214_1429 (P : Params) : Obj := ⟨(.type "tuple"), none, (.seq ⟨(([(.str "self" 2324)] : List Value))⟩ 0), ⟨[]⟩⟩
def o_214_1430 (P : Params) : Obj := ⟨(.type "tuple"), none, (.seq ⟨([] : List Value)⟩ 0), ⟨[]⟩⟩
def o_214_1431 (P : Params) : Obj := ⟨.none, none, (.func ⟨"etop", "Context.etop", defArgs (inClass (top 213) 2), .stmts (defBody (inClass (top 213) 2)), defScope (inClass (top 213) 2), 0, [], .none, .none, .none, .none, none, .none, .none, 0⟩), ⟨[]⟩⟩
def o_214_1432 (P : Params) : Obj := ⟨(.type "code"), none, (.fields ⟨(([(.str "etop" 2321), (.str "Context.etop" 2322), (.str "/claim/cut.py" 2323), (.int (1185) 0), (.int (1) 0), (.int (0) 0), (.int (0) 0), (.int (3) 0), (.ref 1427), (.bool true), (.int (181) 0), (.ref 1428)] : List Value) ++ ([.none, (.ref 1429), (.ref 1430), (.ref 1431), (.int (2325) 0), (.int (1185) 0), (.str "/claim/cut.py" 2326)] : List Value))⟩), ⟨[]⟩⟩
def o_214_1433 (P : Params) : Obj := ⟨(.type "function"), none, (.func ⟨"etop", "Context.etop", defArgs (inClass (top 213) 2), .stmts (defBody (inClass (top 213) 2)), defScope (inClass (top 213) 2), 3, [], .none, .none, .none, (.str "tenwhole.contexts" 2254), none, (.ref 1432), .none, 0⟩), ⟨[]⟩⟩
def o_214_1434 (P : Params) : Obj := ⟨(.type "tuple"), none, (.seq ⟨([] : List Value)⟩ 0), ⟨[]⟩⟩
def o_214_1435 (P : Params) : Obj := ⟨.none, none, (.fields ⟨([] : List Value)⟩), ⟨[]⟩⟩
def o_214_1436 (P : Params) : Obj := ⟨(.type "tuple"), none, (.seq ⟨(([(.str "self" 2331)] : List Value))⟩ 0), ⟨[]⟩⟩
def o_214_1437 (P : Params) : Obj := ⟨(.type "tuple"), none, (.seq ⟨([] : List Value)⟩ 0), ⟨[]⟩⟩
def o_214_1438 (P : Params) : Obj := ⟨.none, none, (.func ⟨"flags", "Context.flags", defArgs (inClass (top 213) 3), .stmts (defBody (inClass (top 213) 3)), defScope (inClass (top 213) 3), 0, [], .none, .none, .none, .none, none, .none, .none, 0⟩), ⟨[]⟩⟩
def o_214_1439 (P : Params) : Obj := ⟨(.type "code"), none, (.fields ⟨(([(.str "flags" 2328), (.str "Context.flags" 2329), (.str "/claim/cut.py" 2330), (.int (1188) 0), (.int (1) 0), (.int (0) 0), (.int (0) 0), (.int (3) 0), (.ref 1434), (.bool true), (.int (181) 0), (.ref 1435)] : List Value) ++ ([.none, (.ref 1436), (.ref 1437), (.ref 1438), (.int (2332) 0), (.int (1188) 0), (.str "/claim/cut.py" 2333)] : List Value))⟩), ⟨[]⟩⟩
def o_214_1440 (P : Params) : Obj := ⟨(.type "function"), none, (.func ⟨"flags", "Context.flags", defArgs (inClass (top 213) 3), .stmts (defBody (inClass (top 213) 3)), defScope (inClass (top 213) 3), 3, [], .none, .none, .none, (.str "tenwhole.contexts" 2254), none, (.ref 1439), .none, 0⟩), ⟨[]⟩⟩
def o_214_1441 (P : Params) : Obj := ⟨(.type "tuple"), none, (.seq ⟨([] : List Value)⟩ 0), ⟨[]⟩⟩
def o_214_1442 (P : Params) : Obj := ⟨.none, none, (.fields ⟨([] : List Value)⟩), ⟨[]⟩⟩
def o_214_1443 (P : Params) : Obj := ⟨(.type "tuple"), none, (.seq ⟨(([(.str "self" 2338)] : List Value))⟩ 0), ⟨[]⟩⟩
def o_214_1444 (P : Params) : Obj := ⟨(.type "tuple"), none, (.seq ⟨([] : List Value)⟩ 0), ⟨[]⟩⟩
def o_214_1445 (P : Params) : Obj := ⟨.none, none, (.func ⟨"traps", "Context.traps", defArgs (inClass (top 213) 4), .stmts (defBody (inClass (top 213) 4)), defScope (inClass (top 213) 4), 0, [], .none, .none, .none, .none, none, .none, .none, 0⟩), ⟨[]⟩⟩
def o_214_1446 (P : Params) : Obj := ⟨(.type "code"), none, (.fields ⟨(([(.str "traps" 2335), (.str "Context.traps" 2336), (.str "/claim/cut.py" 2337), (.int (1191) 0), (.int (1) 0), (.int (0) 0), (.int (0) 0), (.int (3) 0), (.ref 1441), (.bool true), (.int (181) 0), (.ref 1442)] : List Value) ++ ([.none, (.ref 1443), (.ref 1444), (.ref 1445), (.int (2339) 0), (.int (1191) 0), (.str "/claim/cut.py" 2340)] : List Value))⟩), ⟨[]⟩⟩
def o_214_1447 (P : Params) : Obj := ⟨(.type "function"), none, (.func ⟨"traps", "Context.traps", defArgs (inClass (top 213) 4), .stmts (defBody (inClass (top 213) 4)), defScope (inClass (top 213) 4), 3, [], .none, .none, .none, (.str "tenwhole.contexts" 2254), none, (.ref 1446), .none, 0⟩), ⟨[]⟩⟩
def o_214_1448 (P : Params) : Obj := ⟨(.type "tuple"), none, (.seq ⟨([] : List Value)⟩ 0), ⟨[]⟩⟩
def o_214_1449 (P : Params) : Obj := ⟨.none, none, (.fields ⟨([] : List Value)⟩), ⟨[]⟩⟩
def o_214_1450 (P : Params) : Obj := ⟨(.type "tuple"), none, (.seq ⟨(([(.str "self" 2345), (.str "names" 2346)] : List Value))⟩ 0), ⟨[]⟩⟩
def o_214_1451 (P : Params) : Obj := ⟨(.type "tuple"), none, (.seq ⟨([] : List Value)⟩ 0), ⟨[]⟩⟩
def o_214_1452 (P : Params) : Obj := ⟨.none, none, (.func ⟨"set_flags", "Context.set_flags", defArgs (inClass (top 213) 5), .stmts (defBody (inClass (top 213) 5)), defScope (inClass (top 213) 5), 0, [], .none, .none, .none, .none, none, .none, .none, 0⟩), ⟨[]⟩⟩
def o_214_1453 (P : Params) : Obj := ⟨(.type "code"), none, (.fields ⟨(([(.str "set_flags" 2342), (.str "Context.set_flags" 2343), (.str "/claim/cut.py" 2344), (.int (1194) 0), (.int (2) 0), (.int (0) 0), (.int (0) 0), (.int (3) 0), (.ref 1448), (.bool true), (.int (181) 0), (.ref 1449)] : List Value) ++ ([.none, (.ref 1450), (.ref 1451), (.ref 1452), (.int (2347) 0), (.int (1194) 0), (.str "/claim/cut.py" 2348)] : List Value))⟩), ⟨[]⟩⟩
def o_214_1454 (P : Params) : Obj := ⟨(.type "function"), none, (.func ⟨"set_flags", "Context.set_flags", defArgs (inClass (top 213) 5), .stmts (defBody (inClass (top 213) 5)), defScope (inClass (top 213) 5), 3, [], .none, .none, .none, (.str "tenwhole.contexts" 2254), none, (.ref 1453), .none, 0⟩), ⟨[]⟩⟩
def o_214_1455 (P : Params) : Obj := ⟨(.type "tuple"), none, (.seq ⟨([] : List Value)⟩ 0), ⟨[]⟩⟩
def o_214_1456 (P : Params) : Obj := ⟨.none, none, (.fields ⟨([] : List Value)⟩), ⟨[]⟩⟩
def o_214_1457 (P : Params) : Obj := ⟨(.type "tuple"), none, (.seq ⟨(([(.str "self" 2353), (.str "names" 2354)] : List Value))⟩ 0), ⟨[]⟩⟩
def o_214_1458 (P : Params) : Obj := ⟨(.type "tuple"), none, (.seq ⟨([] : List Value)⟩ 0), ⟨[]⟩⟩
def o_214_1459 (P : Params) : Obj := ⟨.none, none, (.func ⟨"set_traps", "Context.set_traps", defArgs (inClass (top 213) 6), .stmts (defBody (inClass (top 213) 6)), defScope (inClass (top 213) 6), 0, [], .none, .none, .none, .none, none, .none, .none, 0⟩), ⟨[]⟩⟩
def o_214_1460 (P : Params) : Obj := ⟨(.type "code"), none, (.fields ⟨(([(.str "set_traps" 2350), (.str "Context.set_traps" 2351), (.str "/claim/cut.py" 2352), (.int (1197) 0), (.int (2) 0), (.int (0) 0), (.int (0) 0), (.int (3) 0), (.ref 1455), (.bool true), (.int (181) 0), (.ref 1456)] : List Value) ++ ([.none, (.ref 1457), (.ref 1458), (.ref 1459), (.int (2355) 0), (.int (1197) 0), (.str "/claim/cut.py" 2356)] : List Value))⟩), ⟨[]⟩⟩
def o_214_1461 (P : Params) : Obj := ⟨(.type "function"), none, (.func ⟨"set_traps", "Context.set_traps", defArgs (inClass (top 213) 6), .stmts (defBody (inClass (top 213) 6)), defScope (inClass (top 213) 6), 3, [], .none, .none, .none, (.str "tenwhole.contexts" 2254), none, (.ref 1460), .none, 0⟩), ⟨[]⟩⟩
def o_214_1462 (P : Params) : Obj := ⟨(.type "tuple"), none, (.seq ⟨([] : List Value)⟩ 0), ⟨[]⟩⟩
def o_214_1463 (P : Params) : Obj := ⟨.none, none, (.fields ⟨([] : List Value)⟩), ⟨[]⟩⟩
def o_214_1464 (P : Params) : Obj := ⟨(.type "tuple"), none, (.seq ⟨(([(.str "self" 2361)] : List Value))⟩ 0), ⟨[]⟩⟩
def o_214_1465 (P : Params) : Obj := ⟨(.type "tuple"), none, (.seq ⟨([] : List Value)⟩ 0), ⟨[]⟩⟩
def o_214_1466 (P : Params) : Obj := ⟨.none, none, (.func ⟨"clear_flags", "Context.clear_flags", defArgs (inClass (top 213) 7), .stmts (defBody (inClass (top 213) 7)), defScope (inClass (top 213) 7), 0, [], .none, .none, .none, .none, none, .none, .none, 0⟩), ⟨[]⟩⟩
def o_214_1467 (P : Params) : Obj := ⟨(.type "code"), none, (.fields ⟨(([(.str "clear_flags" 2358), (.str "Context.clear_flags" 2359), (.str "/claim/cut.py" 2360), (.int (1200) 0), (.int (1) 0), (.int (0) 0), (.int (0) 0), (.int (3) 0), (.ref 1462), (.bool true), (.int (181) 0), (.ref 1463)] : List Value) ++ ([.none, (.ref 1464), (.ref 1465), (.ref 1466), (.int (2362) 0), (.int (1200) 0), (.str "/claim/cut.py" 2363)] : List Value))⟩), ⟨[]⟩⟩
def o_214_1468 (P : Params) : Obj := ⟨(.type "function"), none, (.func ⟨"clear_flags", "Context.clear_flags", defArgs (inClass (top 213) 7), .stmts (defBody (inClass (top 213) 7)), defScope (inClass (top 213) 7), 3, [], .none, .none, .none, (.str "tenwhole.contexts" 2254), none, (.ref 1467), .none, 0⟩), ⟨[]⟩⟩
def o_214_1469 (P : Params) : Obj := ⟨(.type "tuple"), none, (.seq ⟨([] : List Value)⟩ 0), ⟨[]⟩⟩
def o_214_1470 (P : Params) : Obj := ⟨.none, none, (.fields ⟨([] : List Value)⟩), ⟨[]⟩⟩
def o_214_1471 (P : Params) : Obj := ⟨(.type "tuple"), none, (.seq ⟨(([(.str "self" 2368)] : List Value))⟩ 0), ⟨[]⟩⟩
def o_214_1472 (P : Params) : Obj := ⟨(.type "tuple"), none, (.seq ⟨([] : List Value)⟩ 0), ⟨[]⟩⟩
def o_214_1473 (P : Params) : Obj := ⟨.none, none, (.func ⟨"clear_traps", "Context.clear_traps", defArgs (inClass (top 213) 8), .stmts (defBody (inClass (top 213) 8)), defScope (inClass (top 213) 8), 0, [], .none, .none, .none, .none, none, .none, .none, 0⟩), ⟨[]⟩⟩
def o_214_1474 (P : Params) : Obj := ⟨(.type "code"), none, (.fields ⟨(([(.str "clear_traps" 2365), (.str "Context.clear_traps" 2366), (.str "/claim/cut.py" 2367), (.int (1203) 0), (.int (1) 0), (.int (0) 0), (.int (0) 0), (.int (3) 0), (.ref 1469), (.bool true), (.int (181) 0), (.ref 1470)] : List Value) ++ ([.none, (.ref 1471), (.ref 1472), (.ref 1473), (.int (2369) 0), (.int (1203) 0), (.str "/claim/cut.py" 2370)] : List Value))⟩), ⟨[]⟩⟩
def o_214_1475 (P : Params) : Obj := ⟨(.type "function"), none, (.func ⟨"clear_traps", "Context.clear_traps", defArgs (inClass (top 213) 8), .stmts (defBody (inClass (top 213) 8)), defScope (inClass (top 213) 8), 3, [], .none, .none, .none, (.str "tenwhole.contexts" 2254), none, (.ref 1474), .none, 0⟩), ⟨[]⟩⟩
def o_214_1476 (P : Params) : Obj := ⟨(.type "tuple"), none, (.seq ⟨([] : List Value)⟩ 0), ⟨[]⟩⟩
def o_214_1477 (P : Params) : Obj := ⟨.none, none, (.fields ⟨([] : List Value)⟩), ⟨[]⟩⟩
def o_214_1478 (P : Params) : Obj := ⟨(.type "tuple"), none, (.seq ⟨(([(.str "self" 2375), (.str "found" 2376)] : List Value))⟩ 0), ⟨[]⟩⟩
def o_214_1479 (P : Params) : Obj := ⟨(.type "tuple"), none, (.seq ⟨([] : List Value)⟩ 0), ⟨[]⟩⟩
def o_214_1480 (P : Params) : Obj := ⟨.none, none, (.func ⟨"copy", "Context.copy", defArgs (inClass (top 213) 9), .stmts (defBody (inClass (top 213) 9)), defScope (inClass (top 213) 9), 0, [], .none, .none, .none, .none, none, .none, .none, 0⟩), ⟨[]⟩⟩
def o_214_1481 (P : Params) : Obj := ⟨(.type "code"), none, (.fields ⟨(([(.str "copy" 2372), (.str "Context.copy" 2373), (.str "/claim/cut.py" 2374), (.int (1206) 0), (.int (1) 0), (.int (0) 0), (.int (0) 0), (.int (3) 0), (.ref 1476), (.bool true), (.int (181) 0), (.ref 1477)] : List Value) ++ ([.none, (.ref 1478), (.ref 1479), (.ref 1480), (.int (2377) 0), (.int (1206) 0), (.str "/claim/cut.py" 2378)] : List Value))⟩), ⟨[]⟩⟩
def o_214_1482 (P : Params) : Obj := ⟨(.type "function"), none, (.func ⟨"copy", "Context.copy", defArgs (inClass (top 213) 9), .stmts (defBody (inClass (top 213) 9)), defScope (inClass (top 213) 9), 3, [], .none, .none, .none, (.str "tenwhole.contexts" 2254), none, (.ref 1481), .none, 0⟩), ⟨[]⟩⟩
def o_214_1483 (P : Params) : Obj := ⟨(.type "tuple"), none, (.seq ⟨([] : List Value)⟩ 0), ⟨[]⟩⟩
def o_214_1484 (P : Params) : Obj := ⟨.none, none, (.fields ⟨([] : List Value)⟩), ⟨[]⟩⟩
def o_214_1485 (P : Params) : Obj := ⟨.none, none, (.func ⟨"told", "Context.told", defArgs (inClass (top 213) 10), .stmts (defBody (inClass (top 213) 10)), defScope (inClass (top 213) 10), 0, [], .none, .none, .none, .none, none, .none, .none, 0⟩), ⟨[]⟩⟩
def o_214_1486 (P : Params) : Obj := ⟨(.type "code"), none, (.fields ⟨(([(.str "told" 2380), (.str "Context.told" 2381), (.str "/claim/cut.py" 2382), (.int (1211) 0), (.int (3) 0), (.int (0) 0), (.int (0) 0), (.int (3) 0), (.ref 1483), (.bool true), (.int (181) 0), (.ref 1484)] : List Value) ++ ([.none, .none, .none, (.ref 1485), (.int (2383) 0), (.int (1211) 0), (.str "/claim/cut.py" 2384)] : List Value))⟩), ⟨[]⟩⟩
def o_214_1487 (P : Params) : Obj := ⟨(.type "function"), none, (.func ⟨"told", "Context.told", defArgs (inClass (top 213) 10), .stmts (defBody (inClass (top 213) 10)), defScope (inClass (top 213) 10), 3, [], .none, .none, .none, (.str "tenwhole.contexts" 2254), none, (.ref 1486), .none, 0⟩), ⟨[]⟩⟩
def o_214_1488 (P : Params) : Obj := ⟨(.type "tuple"), none, (.seq ⟨([] : List Value)⟩ 0), ⟨[]⟩⟩
def o_214_1489 (P : Params) : Obj := ⟨.none, none, (.fields ⟨([] : List Value)⟩), ⟨[]⟩⟩
def o_214_1490 (P : Params) : Obj := ⟨.none, none, (.func ⟨"settled", "Context.settled", defArgs (inClass (top 213) 11), .stmts (defBody (inClass (top 213) 11)), defScope (inClass (top 213) 11), 0, [], .none, .none, .none, .none, none, .none, .none, 0⟩), ⟨[]⟩⟩
def o_214_1491 (P : Params) : Obj := ⟨(.type "code"), none, (.fields ⟨(([(.str "settled" 2386), (.str "Context.settled" 2387), (.str "/claim/cut.py" 2388), (.int (1217) 0), (.int (3) 0), (.int (0) 0), (.int (0) 0), (.int (3) 0), (.ref 1488), (.bool true), (.int (181) 0), (.ref 1489)] : List Value) ++ ([.none, .none, .none, (.ref 1490), (.int (2389) 0), (.int (1217) 0), (.str "/claim/cut.py" 2390)] : List Value))⟩), ⟨[]⟩⟩
def o_214_1492 (P : Params) : Obj := ⟨(.type "function"), none, (.func ⟨"settled", "Context.settled", defArgs (inClass (top 213) 11), .stmts (defBody (inClass (top 213) 11)), defScope (inClass (top 213) 11), 3, [], .none, .none, .none, (.str "tenwhole.contexts" 2254), none, (.ref 1491), .none, 0⟩), ⟨[]⟩⟩
def o_214_1493 (P : Params) : Obj := ⟨(.type "tuple"), none, (.seq ⟨([] : List Value)⟩ 0), ⟨[]⟩⟩
def o_214_1494 (P : Params) : Obj := ⟨.none, none, (.fields ⟨([] : List Value)⟩), ⟨[]⟩⟩
def o_214_1495 (P : Params) : Obj := ⟨.none, none, (.func ⟨"noted", "Context.noted", defArgs (inClass (top 213) 12), .stmts (defBody (inClass (top 213) 12)), defScope (inClass (top 213) 12), 0, [], .none, .none, .none, .none, none, .none, .none, 0⟩), ⟨[]⟩⟩
def o_214_1496 (P : Params) : Obj := ⟨(.type "code"), none, (.fields ⟨(([(.str "noted" 2392), (.str "Context.noted" 2393), (.str "/claim/cut.py" 2394), (.int (1220) 0), (.int (2) 0), (.int (0) 0), (.int (0) 0), (.int (3) 0), (.ref 1493), (.bool true), (.int (181) 0), (.ref 1494)] : List Value) ++ ([.none, .none, .none, (.ref 1495), (.int (2395) 0), (.int (1220) 0), (.str "/claim/cut.py" 2396)] : List Value))⟩), ⟨[]⟩⟩
def o_214_1497 (P : Params) : Obj := ⟨(.type "function"), none, (.func ⟨"noted", "Context.noted", defArgs (inClass (top 213) 12), .stmts (defBody (inClass (top 213) 12)), defScope (inClass (top 213) 12), 3, [], .none, .none, .none, (.str "tenwhole.contexts" 2254), none, (.ref 1496), .none, 0⟩), ⟨[]⟩⟩
def o_214_1498 (P : Params) : Obj := ⟨(.type "tuple"), none, (.seq ⟨([] : List Value)⟩ 0), ⟨[]⟩⟩
def o_214_1499 (P : Params) : Obj := ⟨.none, none, (.fields ⟨([] : List Value)⟩), ⟨[]⟩⟩
def o_214_1500 (P : Params) : Obj := ⟨(.type "tuple"), none, (.seq ⟨(([(.str "self" 2401), (.str "thing" 2402)] : List Value))⟩ 0), ⟨[]⟩⟩
def o_214_1501 (P : Params) : Obj := ⟨(.type "tuple"), none, (.seq ⟨([] : List Value)⟩ 0), ⟨[]⟩⟩
def o_214_1502 (P : Params) : Obj := ⟨.none, none, (.func ⟨"create_decimal", "Context.create_decimal", defArgs (inClass (top 213) 13), .stmts (defBody (inClass (top 213) 13)), defScope (inClass (top 213) 13), 0, [], .none, .none, .none, .none, none, .none, .none, 0⟩), ⟨[]⟩⟩
def o_214_1503 (P : Params) : Obj := ⟨(.type "code"), none, (.fields ⟨(([(.str "create_decimal" 2398), (.str "Context.create_decimal" 2399), (.str "/claim/cut.py" 2400), (.int (1229) 0), (.int (2) 0), (.int (0) 0), (.int (0) 0), (.int (3) 0), (.ref 1498), (.bool true), (.int (181) 0), (.ref 1499)] : List Value) ++ ([.none, (.ref 1500), (.ref 1501), (.ref 1502), (.int (2403) 0), (.int (1229) 0), (.str "/claim/cut.py" 2404)] : List Value))⟩), ⟨[]⟩⟩
def o_214_1504 (P : Params) : Obj := ⟨(.type "function"), none, (.func ⟨"create_decimal", "Context.create_decimal", defArgs (inClass (top 213) 13), .stmts (defBody (inClass (top 213) 13)), defScope (inClass (top 213) 13), 3, [], .none, .none, .none, (.str "tenwhole.contexts" 2254), none, (.ref 1503), .none, 0⟩), ⟨[]⟩⟩
def o_214_1505 (P : Params) : Obj := ⟨(.type "tuple"), none, (.seq ⟨([] : List Value)⟩ 0), ⟨[]⟩⟩
def o_214_1506 (P : Params) : Obj := ⟨.none, none, (.fields ⟨([] : List Value)⟩), ⟨[]⟩⟩
def o_214_1507 (P : Params) : Obj := ⟨(.type "tuple"), none, (.seq ⟨(([(.str "self" 2409), (.str "a" 2410), (.str "places" 2411)] : List Value))⟩ 0), ⟨[]⟩⟩
def o_214_1508 (P : Params) : Obj := ⟨(.type "tuple"), none, (.seq ⟨([] : List Value)⟩ 0), ⟨[]⟩⟩
def o_214_1509 (P : Params) : Obj := ⟨.none, none, (.func ⟨"round_to", "Context.round_to", defArgs (inClass (top 213) 14), .stmts (defBody (inClass (top 213) 14)), defScope (inClass (top 213) 14), 0, [], .none, .none, .none, .none, none, .none, .none, 0⟩), ⟨[]⟩⟩
def o_214_1510 (P : Params) : Obj := ⟨(.type "code"), none, (.fields ⟨(([(.str "round_to" 2406), (.str "Context.round_to" 2407), (.str "/claim/cut.py" 2408), (.int (1232) 0), (.int (3) 0), (.int (0) 0), (.int (0) 0), (.int (3) 0), (.ref 1505), (.bool true), (.int (181) 0), (.ref 1506)] : List Value) ++ ([.none, (.ref 1507), (.ref 1508), (.ref 1509), (.int (2412) 0), (.int (1232) 0), (.str "/claim/cut.py" 2413)] : List Value))⟩), ⟨[]⟩⟩
def o_214_1511 (P : Params) : Obj := ⟨(.type "function"), none, (.func ⟨"round_to", "Context.round_to", defArgs (inClass (top 213) 14), .stmts (defBody (inClass (top 213) 14)), defScope (inClass (top 213) 14), 3, [], .none, .none, .none, (.str "tenwhole.contexts" 2254), none, (.ref 1510), .none, 0⟩), ⟨[]⟩⟩
def o_214_1512 (P : Params) : Obj := ⟨(.type "tuple"), none, (.seq ⟨([] : List Value)⟩ 0), ⟨[]⟩⟩
def o_214_1513 (P : Params) : Obj := ⟨.none, none, (.fields ⟨([] : List Value)⟩), ⟨[]⟩⟩
def o_214_1514 (P : Params) : Obj := ⟨(.type "tuple"), none, (.seq ⟨(([(.str "self" 2418)] : List Value))⟩ 0), ⟨[]⟩⟩
def o_214_1515 (P : Params) : Obj := ⟨(.type "tuple"), none, (.seq ⟨([] : List Value)⟩ 0), ⟨[]⟩⟩
def o_214_1516 (P : Params) : Obj := ⟨.none, none, (.func ⟨"radix", "Context.radix", defArgs (inClass (top 213) 15), .stmts (defBody (inClass (top 213) 15)), defScope (inClass (top 213) 15), 0, [], .none, .none, .none, .none, none, .none, .none, 0⟩), ⟨[]⟩⟩
def o_214_1517 (P : Params) : Obj := ⟨(.type "code"), none, (.fields ⟨(([(.str "radix" 2415), (.str "Context.radix" 2416), (.str "/claim/cut.py" 2417), (.int (1235) 0), (.int (1) 0), (.int (0) 0), (.int (0) 0), (.int (3) 0), (.ref 1512), (.bool true), (.int (181) 0), (.ref 1513)] : List Value) ++ ([.none, (.ref 1514), (.ref 1515), (.ref 1516), (.int (2419) 0), (.int (1235) 0), (.str "/claim/cut.py" 2420)] : List Value))⟩), ⟨[]⟩⟩
def o_214_1518 (P : Params) : Obj := ⟨(.type "function"), none, (.func ⟨"radix", "Context.radix", defArgs (inClass (top 213) 15), .stmts (defBody (inClass (top 213) 15)), defScope (inClass (top 213) 15), 3, [], .none, .none, .none, (.str "tenwhole.contexts" 2254), none, (.ref 1517), .none, 0⟩), ⟨[]⟩⟩
def o_214_1519 (P : Params) : Obj := ⟨(.type "tuple"), none, (.seq ⟨([] : List Value)⟩ 0), ⟨[]⟩⟩
def o_214_1520 (P : Params) : Obj := ⟨.none, none, (.fields ⟨([] : List Value)⟩), ⟨[]⟩⟩
def o_214_1521 (P : Params) : Obj := ⟨(.type "tuple"), none, (.seq ⟨(([(.str "self" 2425), (.str "a" 2426)] : List Value))⟩ 0), ⟨[]⟩⟩
def o_214_1522 (P : Params) : Obj := ⟨(.type "tuple"), none, (.seq ⟨([] : List Value)⟩ 0), ⟨[]⟩⟩
def o_214_1523 (P : Params) : Obj := ⟨.none, none, (.func ⟨"to_sci_string", "Context.to_sci_string", defArgs (inClass (top 213) 16), .stmts (defBody (inClass (top 213) 16)), defScope (inClass (top 213) 16), 0, [], .none, .none, .none, .none, none, .none, .none, 0⟩), ⟨[]⟩⟩
def o_214_1524 (P : Params) : Obj := ⟨(.type "code"), none, (.fields ⟨(([(.str "to_sci_string" 2422), (.str "Context.to_sci_string" 2423), (.str "/claim/cut.py" 2424), (.int (1238) 0), (.int (2) 0), (.int (0) 0), (.int (0) 0), (.int (3) 0), (.ref 1519), (.bool true), (.int (181) 0), (.ref 1520)] : List Value) ++ ([.none, (.ref 1521), (.ref 1522), (.ref 1523), (.int (2427) 0), (.int (1238) 0), (.str "/claim/cut.py" 2428)] : List Value))⟩), ⟨[]⟩⟩
def o_214_1525 (P : Params) : Obj := ⟨(.type "function"), none, (.func ⟨"to_sci_string", "Context.to_sci_string", defArgs (inClass (top 213) 16), .stmts (defBody (inClass (top 213) 16)), defScope (inClass (top 213) 16), 3, [], .none, .none, .none, (.str "tenwhole.contexts" 2254), none, (.ref 1524), .none, 0⟩), ⟨[]⟩⟩
def o_214_1526 (P : Params) : Obj := ⟨(.type "tuple"), none, (.seq ⟨([] : List Value)⟩ 0), ⟨[]⟩⟩
def o_214_1527 (P : Params) : Obj := ⟨.none, none, (.fields ⟨([] : List Value)⟩), ⟨[]⟩⟩
def o_214_1528 (P : Params) : Obj := ⟨(.type "tuple"), none, (.seq ⟨(([(.str "self" 2433), (.str "a" 2434)] : List Value))⟩ 0), ⟨[]⟩⟩
def o_214_1529 (P : Params) : Obj := ⟨(.type "tuple"), none, (.seq ⟨([] : List Value)⟩ 0), ⟨[]⟩⟩
def o_214_1530 (P : Params) : Obj := ⟨.none, none, (.func ⟨"to_eng_string", "Context.to_eng_string", defArgs (inClass (top 213) 17), .stmts (defBody (inClass (top 213) 17)), defScope (inClass (top 213) 17), 0, [], .none, .none, .none, .none, none, .none, .none, 0⟩), ⟨[]⟩⟩
def o_214_1531 (P : Params) : Obj := ⟨(.type "code"), none, (.fields ⟨(([(.str "to_eng_string" 2430), (.str "Context.to_eng_string" 2431), (.str "/claim/cut.py" 2432), (.int (1241) 0), (.int (2) 0), (.int (0) 0), (.int (0) 0), (.int (3) 0), (.ref 1526), (.bool true), (.int (181) 0), (.ref 1527)] : List Value) ++ ([.none, (.ref 1528), (.ref 1529), (.ref 1530), (.int (2435) 0), (.int (1241) 0), (.str "/claim/cut.py" 2436)] : List Value))⟩), ⟨[]⟩⟩
def o_214_1532 (P : Params) : Obj := ⟨(.type "function"), none, (.func ⟨"to_eng_string", "Context.to_eng_string", defArgs (inClass (top 213) 17), .stmts (defBody (inClass (top 213) 17)), defScope (inClass (top 213) 17), 3, [], .none, .none, .none, (.str "tenwhole.contexts" 2254), none, (.ref 1531), .none, 0⟩), ⟨[]⟩⟩
def o_214_1533 (P : Params) : Obj := ⟨(.type "tuple"), none, (.seq ⟨([] : List Value)⟩ 0), ⟨[]⟩⟩
def o_214_1534 (P : Params) : Obj := ⟨.none, none, (.fields ⟨([] : List Value)⟩), ⟨[]⟩⟩
def o_214_1535 (P : Params) : Obj := ⟨(.type "tuple"), none, (.seq ⟨(([(.str "self" 2441), (.str "a" 2442), (.str "spec" 2443)] : List Value))⟩ 0), ⟨[]⟩⟩
def o_214_1536 (P : Params) : Obj := ⟨(.type "tuple"), none, (.seq ⟨([] : List Value)⟩ 0), ⟨[]⟩⟩
def o_214_1537 (P : Params) : Obj := ⟨.none, none, (.func ⟨"formatted", "Context.formatted", defArgs (inClass (top 213) 18), .stmts (defBody (inClass (top 213) 18)), defScope (inClass (top 213) 18), 0, [], .none, .none, .none, .none, none, .none, .none, 0⟩), ⟨[]⟩⟩
def o_214_1538 (P : Params) : Obj := ⟨(.type "code"), none, (.fields ⟨(([(.str "formatted" 2438), (.str "Context.formatted" 2439), (.str "/claim/cut.py" 2440), (.int (1244) 0), (.int (3) 0), (.int (0) 0), (.int (0) 0), (.int (3) 0), (.ref 1533), (.bool true), (.int (181) 0), (.ref 1534)] : List Value) ++ ([.none, (.ref 1535), (.ref 1536), (.ref 1537), (.int (2444) 0), (.int (1244) 0), (.str "/claim/cut.py" 2445)] : List Value))⟩), ⟨[]⟩⟩
def o_214_1539 (P : Params) : Obj := ⟨(.type "function"), none, (.func ⟨"formatted", "Context.formatted", defArgs (inClass (top 213) 18), .stmts (defBody (inClass (top 213) 18)), defScope (inClass (top 213) 18), 3, [], .none, .none, .none, (.str "tenwhole.contexts" 2254), none, (.ref 1538), .none, 0⟩), ⟨[]⟩⟩
def o_214_1540 (P : Params) : Obj := ⟨(.type "tuple"), none, (.seq ⟨([] : List Value)⟩ 0), ⟨[]⟩⟩
def o_214_1541 (P : Params) : Obj := ⟨.none, none, (.fields ⟨([] : List Value)⟩), ⟨[]⟩⟩
def o_214_1542 (P : Params) : Obj := ⟨(.type "tuple"), none, (.seq ⟨(([(.str "self" 2450), (.str "a" 2451), (.str "b" 2452), (.str "c" 2453)] : List Value))⟩ 0), ⟨[]⟩⟩
def o_214_1543 (P : Params) : Obj := ⟨(.type "tuple"), none, (.seq ⟨([] : List Value)⟩ 0), ⟨[]⟩⟩
def o_214_1544 (P : Params) : Obj := ⟨.none, none, (.func ⟨"fma", "Context.fma", defArgs (inClass (top 213) 19), .stmts (defBody (inClass (top 213) 19)), defScope (inClass (top 213) 19), 0, [], .none, .none, .none, .none, none, .none, .none, 0⟩), ⟨[]⟩⟩
def o_214_1545 (P : Params) : Obj := ⟨(.type "code"), none, (.fields ⟨(([(.str "fma" 2447), (.str "Context.fma" 2448), (.str "/claim/cut.py" 2449), (.int (1247) 0), (.int (4) 0), (.int (0) 0), (.int (0) 0), (.int (3) 0), (.ref 1540), (.bool true), (.int (181) 0), (.ref 1541)] : List Value) ++ ([.none, (.ref 1542), (.ref 1543), (.ref 1544), (.int (2454) 0), (.int (1247) 0), (.str "/claim/cut.py" 2455)] : List Value))⟩), ⟨[]⟩⟩
def o_214_1546 (P : Params) : Obj := ⟨(.type "function"), none, (.func ⟨"fma", "Context.fma", defArgs (inClass (top 213) 19), .stmts (defBody (inClass (top 213) 19)), defScope (inClass (top 213) 19), 3, [], .none, .none, .none, (.str "tenwhole.contexts" 2254), none, (.ref 1545), .none, 0⟩), ⟨[]⟩⟩
def o_214_1547 (P : Params) : Obj := ⟨(.type "tuple"), none, (.seq ⟨(([.none] : List Value))⟩ 0), ⟨[]⟩⟩
def o_214_1548 (P : Params) : Obj := ⟨(.type "tuple"), none, (.seq ⟨([] : List Value)⟩ 0), ⟨[]⟩⟩
def o_214_1549 (P : Params) : Obj := ⟨.none, none, (.fields ⟨([] : List Value)⟩), ⟨[]⟩⟩
def o_214_1550 (P : Params) : Obj := ⟨(.type "tuple"), none, (.seq ⟨(([(.str "self" 2460), (.str "a" 2461), (.str "b" 2462), (.str "modulo" 2463)] : List Value))⟩ 0), ⟨[]⟩⟩
def o_214_1551 (P : Params) : Obj := ⟨(.type "tuple"), none, (.seq ⟨([] : List Value)⟩ 0), ⟨[]⟩⟩
def o_214_1552 (P : Params) : Obj := ⟨.none, none, (.func ⟨"power", "Context.power", defArgs (inClass (top 213) 20), .stmts (defBody (inClass (top 213) 20)), defScope (inClass (top 213) 20), 0, [], .none, .none, .none, .none, none, .none, .none, 0⟩), ⟨[]⟩⟩
def o_214_1553 (P : Params) : Obj := ⟨(.type "code"), none, (.fields ⟨(([(.str "power" 2457), (.str "Context.power" 2458), (.str "/claim/cut.py" 2459), (.int (1250) 0), (.int (4) 0), (.int (0) 0), (.int (0) 0), (.int (3) 0), (.ref 1548), (.bool true), (.int (181) 0), (.ref 1549)] : List Value) ++ ([.none, (.ref 1550), (.ref 1551), (.ref 1552), (.int (2464) 0), (.int (1250) 0), (.str "/claim/cut.py" 2465)] : List Value))⟩), ⟨[]⟩⟩
def o_214_1554 (P : Params) : Obj := ⟨(.type "function"), none, (.func ⟨"power", "Context.power", defArgs (inClass (top 213) 20), .stmts (defBody (inClass (top 213) 20)), defScope (inClass (top 213) 20), 3, [], (.ref 1547), .none, .none, (.str "tenwhole.contexts" 2254), none, (.ref 1553), .none, 0⟩), ⟨[]⟩⟩
def o_214_1555 (P : Params) : Obj := ⟨(.type "tuple"), none, (.seq ⟨([] : List Value)⟩ 0), ⟨[]⟩⟩
def o_214_1556 (P : Params) : Obj := ⟨.none, none, (.fields ⟨([] : List Value)⟩), ⟨[]⟩⟩
def o_214_1557 (P : Params) : Obj := ⟨(.type "tuple"), none, (.seq ⟨(([(.str "self" 2470), (.str "a" 2471), (.str "b" 2472)] : List Value))⟩ 0), ⟨[]⟩⟩
def o_214_1558 (P : Params) : Obj := ⟨(.type "tuple"), none, (.seq ⟨([] : List Value)⟩ 0), ⟨[]⟩⟩
def o_214_1559 (P : Params) : Obj := ⟨.none, none, (.func ⟨"copy_sign", "Context.copy_sign", defArgs (inClass (top 213) 21), .stmts (defBody (inClass (top 213) 21)), defScope (inClass (top 213) 21), 0, [], .none, .none, .none, .none, none, .none, .none, 0⟩), ⟨[]⟩⟩
def o_214_1560 (P : Params) : Obj := ⟨(.type "code"), none, (.fields ⟨(([(.str "copy_sign" 2467), (.str "Context.copy_sign" 2468), (.str "/claim/cut.py" 2469), (.int (1255) 0), (.int (3) 0), (.int (0) 0), (.int (0) 0), (.int (3) 0), (.ref 1555), (.bool true), (.int (181) 0), (.ref 1556)] : List Value) ++ ([.none, (.ref 1557), (.ref 1558), (.ref 1559), (.int (2473) 0), (.int (1255) 0), (.str "/claim/cut.py" 2474)] : List Value))⟩), ⟨[]⟩⟩
def o_214_1561 (P : Params) : Obj := ⟨(.type "function"), none, (.func ⟨"copy_sign", "Context.copy_sign", defArgs (inClass (top 213) 21), .stmts (defBody (inClass (top 213) 21)), defScope (inClass (top 213) 21), 3, [], .none, .none, .none, (.str "tenwhole.contexts" 2254), none, (.ref 1560), .none, 0⟩), ⟨[]⟩⟩
def o_214_1562 (P : Params) : Obj := ⟨(.type "tuple"), none, (.seq ⟨([] : List Value)⟩ 0), ⟨[]⟩⟩
def o_214_1563 (P : Params) : Obj := ⟨.none, none, (.fields ⟨([] : List Value)⟩), ⟨[]⟩⟩
def o_214_1564 (P : Params) : Obj := ⟨(.type "tuple"), none, (.seq ⟨(([(.str "self" 2479), (.str "a" 2480)] : List Value))⟩ 0), ⟨[]⟩⟩
def o_214_1565 (P : Params) : Obj := ⟨(.type "tuple"), none, (.seq ⟨([] : List Value)⟩ 0), ⟨[]⟩⟩
def o_214_1566 (P : Params) : Obj := ⟨.none, none, (.func ⟨"is_finite", "Context.is_finite", defArgs (inClass (top 213) 22), .stmts (defBody (inClass (top 213) 22)), defScope (inClass (top 213) 22), 0, [], .none, .none, .none, .none, none, .none, .none, 0⟩), ⟨[]⟩⟩
def o_214_1567 (P : Params) : Obj := ⟨(.type "code"), none, (.fields ⟨(([(.str "is_finite" 2476), (.str "Context.is_finite" 2477), (.str "/claim/cut.py" 2478), (.int (1258) 0), (.int (2) 0), (.int (0) 0), (.int (0) 0), (.int (3) 0), (.ref 1562), (.bool true), (.int (181) 0), (.ref 1563)] : List Value) ++ ([.none, (.ref 1564), (.ref 1565), (.ref 1566), (.int (2481) 0), (.int (1258) 0), (.str "/claim/cut.py" 2482)] : List Value))⟩), ⟨[]⟩⟩
def o_214_1568 (P : Params) : Obj := ⟨(.type "function"), none, (.func ⟨"is_finite", "Context.is_finite", defArgs (inClass (top 213) 22), .stmts (defBody (inClass (top 213) 22)), defScope (inClass (top 213) 22), 3, [], .none, .none, .none, (.str "tenwhole.contexts" 2254), none, (.ref 1567), .none, 0⟩), ⟨[]⟩⟩
def o_214_1569 (P : Params) : Obj := ⟨(.type "tuple"), none, (.seq ⟨([] : List Value)⟩ 0), ⟨[]⟩⟩
def o_214_1570 (P : Params) : Obj := ⟨.none, none, (.fields ⟨([] : List Value)⟩), ⟨[]⟩⟩
def o_214_1571 (P : Params) : Obj := ⟨(.type "tuple"), none, (.seq ⟨(([(.str "self" 2487), (.str "a" 2488)] : List Value))⟩ 0), ⟨[]⟩⟩
def o_214_1572 (P : Params) : Obj := ⟨(.type "tuple"), none, (.seq ⟨([] : List Value)⟩ 0), ⟨[]⟩⟩
def o_214_1573 (P : Params) : Obj := ⟨.none, none, (.func ⟨"is_infinite", "Context.is_infinite", defArgs (inClass (top 213) 23), .stmts (defBody (inClass (top 213) 23)), defScope (inClass (top 213) 23), 0, [], .none, .none, .none, .none, none, .none, .none, 0⟩), ⟨[]⟩⟩
def o_214_1574 (P : Params) : Obj := ⟨(.type "code"), none, (.fields ⟨(([(.str "is_infinite" 2484), (.str "Context.is_infinite" 2485), (.str "/claim/cut.py" 2486), (.int (1261) 0), (.int (2) 0), (.int (0) 0), (.int (0) 0), (.int (3) 0), (.ref 1569), (.bool true), (.int (181) 0), (.ref 1570)] : List Value) ++ ([.none, (.ref 1571), (.ref 1572), (.ref 1573), (.int (2489) 0), (.int (1261) 0), (.str "/claim/cut.py" 2490)] : List Value))⟩), ⟨[]⟩⟩
def o_214_1575 (P : Params) : Obj := ⟨(.type "function"), none, (.func ⟨"is_infinite", "Context.is_infinite", defArgs (inClass (top 213) 23), .stmts (defBody (inClass (top 213) 23)), defScope (inClass (top 213) 23), 3, [], .none, .none, .none, (.str "tenwhole.contexts" 2254), none, (.ref 1574), .none, 0⟩), ⟨[]⟩⟩
def o_214_1576 (P : Params) : Obj := ⟨(.type "tuple"), none, (.seq ⟨([] : List Value)⟩ 0), ⟨[]⟩⟩
def o_214_1577 (P : Params) : Obj := ⟨.none, none, (.fields ⟨([] : List Value)⟩), ⟨[]⟩⟩
def o_214_1578 (P : Params) : Obj := ⟨(.type "tuple"), none, (.seq ⟨(([(.str "self" 2495), (.str "a" 2496)] : List Value))⟩ 0), ⟨[]⟩⟩
def o_214_1579 (P : Params) : Obj := ⟨(.type "tuple"), none, (.seq ⟨([] : List Value)⟩ 0), ⟨[]⟩⟩
def o_214_1580 (P : Params) : Obj := ⟨.none, none, (.func ⟨"is_nan", "Context.is_nan", defArgs (inClass (top 213) 24), .stmts (defBody (inClass (top 213) 24)), defScope (inClass (top 213) 24), 0, [], .none, .none, .none, .none, none, .none, .none, 0⟩), ⟨[]⟩⟩
def o_214_1581 (P : Params) : Obj := ⟨(.type "code"), none, (.fields ⟨(([(.str "is_nan" 2492), (.str "Context.is_nan" 2493), (.str "/claim/cut.py" 2494), (.int (1264) 0), (.int (2) 0), (.int (0) 0), (.int (0) 0), (.int (3) 0), (.ref 1576), (.bool true), (.int (181) 0), (.ref 1577)] : List Value) ++ ([.none, (.ref 1578), (.ref 1579), (.ref 1580), (.int (2497) 0), (.int (1264) 0), (.str "/claim/cut.py" 2498)] : List Value))⟩), ⟨[]⟩⟩
def o_214_1582 (P : Params) : Obj := ⟨(.type "function"), none, (.func ⟨"is_nan", "Context.is_nan", defArgs (inClass (top 213) 24), .stmts (defBody (inClass (top 213) 24)), defScope (inClass (top 213) 24), 3, [], .none, .none, .none, (.str "tenwhole.contexts" 2254), none, (.ref 1581), .none, 0⟩), ⟨[]⟩⟩
def o_214_1583 (P : Params) : Obj := ⟨(.type "tuple"), none, (.seq ⟨([] : List Value)⟩ 0), ⟨[]⟩⟩
def o_214_1584 (P : Params) : Obj := ⟨.none, none, (.fields ⟨([] : List Value)⟩), ⟨[]⟩⟩
def o_214_1585 (P : Params) : Obj := ⟨(.type "tuple"), none, (.seq ⟨(([(.str "self" 2503), (.str "a" 2504)] : List Value))⟩ 0), ⟨[]⟩⟩
def o_214_1586 (P : Params) : Obj := ⟨(.type "tuple"), none, (.seq ⟨([] : List Value)⟩ 0), ⟨[]⟩⟩
def o_214_1587 (P : Params) : Obj := ⟨.none, none, (.func ⟨"is_qnan", "Context.is_qnan", defArgs (inClass (top 213) 25), .stmts (defBody (inClass (top 213) 25)), defScope (inClass (top 213) 25), 0, [], .none, .none, .none, .none, none, .none, .none, 0⟩), ⟨[]⟩⟩
def o_214_1588 (P : Params) : Obj := ⟨(.type "code"), none, (.fields ⟨(([(.str "is_qnan" 2500), (.str "Context.is_qnan" 2501), (.str "/claim/cut.py" 2502), (.int (1267) 0), (.int (2) 0), (.int (0) 0), (.int (0) 0), (.int (3) 0), (.ref 1583), (.bool true), (.int (181) 0), (.ref 1584)] : List Value) ++ ([.none, (.ref 1585), (.ref 1586), (.ref 1587), (.int (2505) 0), (.int (1267) 0), (.str "/claim/cut.py" 2506)] : List Value))⟩), ⟨[]⟩⟩
def o_214_1589 (P : Params) : Obj := ⟨(.type "function"), none, (.func ⟨"is_qnan", "Context.is_qnan", defArgs (inClass (top 213) 25), .stmts (defBody (inClass (top 213) 25)), defScope (inClass (top 213) 25), 3, [], .none, .none, .none, (.str "tenwhole.contexts" 2254), none, (.ref 1588), .none, 0⟩), ⟨[]⟩⟩
def o_214_1590 (P : Params) : Obj := ⟨(.type "tuple"), none, (.seq ⟨([] : List Value)⟩ 0), ⟨[]⟩⟩
def o_214_1591 (P : Params) : Obj := ⟨.none, none, (.fields ⟨([] : List Value)⟩), ⟨[]⟩⟩
def o_214_1592 (P : Params) : Obj := ⟨(.type "tuple"), none, (.seq ⟨(([(.str "self" 2511), (.str "a" 2512)] : List Value))⟩ 0), ⟨[]⟩⟩
def o_214_1593 (P : Params) : Obj := ⟨(.type "tuple"), none, (.seq ⟨([] : List Value)⟩ 0), ⟨[]⟩⟩
def o_214_1594 (P : Params) : Obj := ⟨.none, none, (.func ⟨"is_snan", "Context.is_snan", defArgs (inClass (top 213) 26), .stmts (defBody (inClass (top 213) 26)), defScope (inClass (top 213) 26), 0, [], .none, .none, .none, .none, none, .none, .none, 0⟩), ⟨[]⟩⟩
def o_214_1595 (P : Params) : Obj := ⟨(.type "code"), none, (.fields ⟨(([(.str "is_snan" 2508), (.str "Context.is_snan" 2509), (.str "/claim/cut.py" 2510), (.int (1270) 0), (.int (2) 0), (.int (0) 0), (.int (0) 0), (.int (3) 0), (.ref 1590), (.bool true), (.int (181) 0), (.ref 1591)] : List Value) ++ ([.none, (.ref 1592), (.ref 1593), (.ref 1594), (.int (2513) 0), (.int (1270) 0), (.str "/claim/cut.py" 2514)] : List Value))⟩), ⟨[]⟩⟩
def o_214_1596 (P : Params) : Obj := ⟨(.type "function"), none, (.func ⟨"is_snan", "Context.is_snan", defArgs (inClass (top 213) 26), .stmts (defBody (inClass (top 213) 26)), defScope (inClass (top 213) 26), 3, [], .none, .none, .none, (.str "tenwhole.contexts" 2254), none, (.ref 1595), .none, 0⟩), ⟨[]⟩⟩
def o_214_1597 (P : Params) : Obj := ⟨(.type "tuple"), none, (.seq ⟨([] : List Value)⟩ 0), ⟨[]⟩⟩
def o_214_1598 (P : Params) : Obj := ⟨.none, none, (.fields ⟨([] : List Value)⟩), ⟨[]⟩⟩
def o_214_1599 (P : Params) : Obj := ⟨(.type "tuple"), none, (.seq ⟨(([(.str "self" 2519), (.str "a" 2520)] : List Value))⟩ 0), ⟨[]⟩⟩
def o_214_1600 (P : Params) : Obj := ⟨(.type "tuple"), none, (.seq ⟨([] : List Value)⟩ 0), ⟨[]⟩⟩
def o_214_1601 (P : Params) : Obj := ⟨.none, none, (.func ⟨"is_signed", "Context.is_signed", defArgs (inClass (top 213) 27), .stmts (defBody (inClass (top 213) 27)), defScope (inClass (top 213) 27), 0, [], .none, .none, .none, .none, none, .none, .none, 0⟩), ⟨[]⟩⟩
def o_214_1602 (P : Params) : Obj := ⟨(.type "code"), none, (.fields ⟨(([(.str "is_signed" 2516), (.str "Context.is_signed" 2517), (.str "/claim/cut.py" 2518), (.int (1273) 0), (.int (2) 0), (.int (0) 0), (.int (0) 0), (.int (3) 0), (.ref 1597), (.bool true), (.int (181) 0), (.ref 1598)] : List Value) ++ ([.none, (.ref 1599), (.ref 1600), (.ref 1601), (.int (2521) 0), (.int (1273) 0), (.str "/claim/cut.py" 2522)] : List Value))⟩), ⟨[]⟩⟩
def o_214_1603 (P : Params) : Obj := ⟨(.type "function"), none, (.func ⟨"is_signed", "Context.is_signed", defArgs (inClass (top 213) 27), .stmts (defBody (inClass (top 213) 27)), defScope (inClass (top 213) 27), 3, [], .none, .none, .none, (.str "tenwhole.contexts" 2254), none, (.ref 1602), .none, 0⟩), ⟨[]⟩⟩
def o_214_1604 (P : Params) : Obj := ⟨(.type "tuple"), none, (.seq ⟨([] : List Value)⟩ 0), ⟨[]⟩⟩
def o_214_1605 (P : Params) : Obj := ⟨.none, none, (.fields ⟨([] : List Value)⟩), ⟨[]⟩⟩
def o_214_1606 (P : Params) : Obj := ⟨(.type "tuple"), none, (.seq ⟨(([(.str "self" 2527), (.str "a" 2528)] : List Value))⟩ 0), ⟨[]⟩⟩
def o_214_1607 (P : Params) : Obj := ⟨(.type "tuple"), none, (.seq ⟨([] : List Value)⟩ 0), ⟨[]⟩⟩
def o_214_1608 (P : Params) : Obj := ⟨.none, none, (.func ⟨"is_zero", "Context.is_zero", defArgs (inClass (top 213) 28), .stmts (defBody (inClass (top 213) 28)), defScope (inClass (top 213) 28), 0, [], .none, .none, .none, .none, none, .none, .none, 0⟩), ⟨[]⟩⟩
def o_214_1609 (P : Params) : Obj := ⟨(.type "code"), none, (.fields ⟨(([(.str "is_zero" 2524), (.str "Context.is_zero" 2525), (.str "/claim/cut.py" 2526), (.int (1276) 0), (.int (2) 0), (.int (0) 0), (.int (0) 0), (.int (3) 0), (.ref 1604), (.bool true), (.int (181) 0), (.ref 1605)] : List Value) ++ ([.none, (.ref 1606), (.ref 1607), (.ref 1608), (.int (2529) 0), (.int (1276) 0), (.str "/claim/cut.py" 2530)] : List Value))⟩), ⟨[]⟩⟩
def o_214_1610 (P : Params) : Obj := ⟨(.type "function"), none, (.func ⟨"is_zero", "Context.is_zero", defArgs (inClass (top 213) 28), .stmts (defBody (inClass (top 213) 28)), defScope (inClass (top 213) 28), 3, [], .none, .none, .none, (.str "tenwhole.contexts" 2254), none, (.ref 1609), .none, 0⟩), ⟨[]⟩⟩
def o_214_1611 (P : Params) : Obj := ⟨(.type "tuple"), none, (.seq ⟨([] : List Value)⟩ 0), ⟨[]⟩⟩
def o_214_1612 (P : Params) : Obj := ⟨.none, none, (.fields ⟨([] : List Value)⟩), ⟨[]⟩⟩
def o_214_1613 (P : Params) : Obj := ⟨(.type "tuple"), none, (.seq ⟨(([(.str "self" 2535), (.str "a" 2536)] : List Value))⟩ 0), ⟨[]⟩⟩
def o_214_1614 (P : Params) : Obj := ⟨(.type "tuple"), none, (.seq ⟨([] : List Value)⟩ 0), ⟨[]⟩⟩
def o_214_1615 (P : Params) : Obj := ⟨.none, none, (.func ⟨"is_canonical", "Context.is_canonical", defArgs (inClass (top 213) 29), .stmts (defBody (inClass (top 213) 29)), defScope (inClass (top 213) 29), 0, [], .none, .none, .none, .none, none, .none, .none, 0⟩), ⟨[]⟩⟩
def o_214_1616 (P : Params) : Obj := ⟨(.type "code"), none, (.fields ⟨(([(.str "is_canonical" 2532), (.str "Context.is_canonical" 2533), (.str "/claim/cut.py" 2534), (.int (1279) 0), (.int (2) 0), (.int (0) 0), (.int (0) 0), (.int (3) 0), (.ref 1611), (.bool true), (.int (181) 0), (.ref 1612)] : List Value) ++ ([.none, (.ref 1613), (.ref 1614), (.ref 1615), (.int (2537) 0), (.int (1279) 0), (.str "/claim/cut.py" 2538)] : List Value))⟩), ⟨[]⟩⟩
def o_214_1617 (P : Params) : Obj := ⟨(.type "function"), none, (.func ⟨"is_canonical", "Context.is_canonical", defArgs (inClass (top 213) 29), .stmts (defBody (inClass (top 213) 29)), defScope (inClass (top 213) 29), 3, [], .none, .none, .none, (.str "tenwhole.contexts" 2254), none, (.ref 1616), .none, 0⟩), ⟨[]⟩⟩
def o_214_1618 (P : Params) : Obj := ⟨(.type "tuple"), none, (.seq ⟨([] : List Value)⟩ 0), ⟨[]⟩⟩
def o_214_1619 (P : Params) : Obj := ⟨.none, none, (.fields ⟨([] : List Value)⟩), ⟨[]⟩⟩
def o_214_1620 (P : Params) : Obj := ⟨(.type "tuple"), none, (.seq ⟨(([(.str "self" 2543), (.str "a" 2544)] : List Value))⟩ 0), ⟨[]⟩⟩
def o_214_1621 (P : Params) : Obj := ⟨(.type "tuple"), none, (.seq ⟨([] : List Value)⟩ 0), ⟨[]⟩⟩
def o_214_1622 (P : Params) : Obj := ⟨.none, none, (.func ⟨"copy_abs", "Context.copy_abs", defArgs (inClass (top 213) 30), .stmts (defBody (inClass (top 213) 30)), defScope (inClass (top 213) 30), 0, [], .none, .none, .none, .none, none, .none, .none, 0⟩), ⟨[]⟩⟩
def o_214_1623 (P : Params) : Obj := ⟨(.type "code"), none, (.fields ⟨(([(.str "copy_abs" 2540), (.str "Context.copy_abs" 2541), (.str "/claim/cut.py" 2542), (.int (1282) 0), (.int (2) 0), (.int (0) 0), (.int (0) 0), (.int (3) 0), (.ref 1618), (.bool true), (.int (181) 0), (.ref 1619)] : List Value) ++ ([.none, (.ref 1620), (.ref 1621), (.ref 1622), (.int (2545) 0), (.int (1282) 0), (.str "/claim/cut.py" 2546)] : List Value))⟩), ⟨[]⟩⟩
def o_214_1624 (P : Params) : Obj := ⟨(.type "function"), none, (.func ⟨"copy_abs", "Context.copy_abs", defArgs (inClass (top 213) 30), .stmts (defBody (inClass (top 213) 30)), defScope (inClass (top 213) 30), 3, [], .none, .none, .none, (.str "tenwhole.contexts" 2254), none, (.ref 1623), .none, 0⟩), ⟨[]⟩⟩
def o_214_1625 (P : Params) : Obj := ⟨(.type "tuple"), none, (.seq ⟨([] : List Value)⟩ 0), ⟨[]⟩⟩
def o_214_1626 (P : Params) : Obj := ⟨.none, none, (.fields ⟨([] : List Value)⟩), ⟨[]⟩⟩
def o_214_1627 (P : Params) : Obj := ⟨(.type "tuple"), none, (.seq ⟨(([(.str "self" 2551), (.str "a" 2552)] : List Value))⟩ 0), ⟨[]⟩⟩
def o_214_1628 (P : Params) : Obj := ⟨(.type "tuple"), none, (.seq ⟨([] : List Value)⟩ 0), ⟨[]⟩⟩
def o_214_1629 (P : Params) : Obj := ⟨.none, none, (.func ⟨"copy_negate", "Context.copy_negate", defArgs (inClass (top 213) 31), .stmts (defBody (inClass (top 213) 31)), defScope (inClass (top 213) 31), 0, [], .none, .none, .none, .none, none, .none, .none, 0⟩), ⟨[]⟩⟩
def o_214_1630 (P : Params) : Obj := ⟨(.type "code"), none, (.fields ⟨(([(.str "copy_negate" 2548), (.str "Context.copy_negate" 2549), (.str "/claim/cut.py" 2550), (.int (1285) 0), (.int (2) 0), (.int (0) 0), (.int (0) 0), (.int (3) 0), (.ref 1625), (.bool true), (.int (181) 0), (.ref 1626)] : List Value) ++ ([.none, (.ref 1627), (.ref 1628), (.ref 1629), (.int (2553) 0), (.int (1285) 0), (.str "/claim/cut.py" 2554)] : List Value))⟩), ⟨[]⟩⟩
def o_214_1631 (P : Params) : Obj := ⟨(.type "function"), none, (.func ⟨"copy_negate", "Context.copy_negate", defArgs (inClass (top 213) 31), .stmts (defBody (inClass (top 213) 31)), defScope (inClass (top 213) 31), 3, [], .none, .none, .none, (.str "tenwhole.contexts" 2254), none, (.ref 1630), .none, 0⟩), ⟨[]⟩⟩
def o_214_1632 (P : Params) : Obj := ⟨(.type "tuple"), none, (.seq ⟨([] : List Value)⟩ 0), ⟨[]⟩⟩
def o_214_1633 (P : Params) : Obj := ⟨.none, none, (.fields ⟨([] : List Value)⟩), ⟨[]⟩⟩
def o_214_1634 (P : Params) : Obj := ⟨(.type "tuple"), none, (.seq ⟨(([(.str "self" 2559), (.str "a" 2560)] : List Value))⟩ 0), ⟨[]⟩⟩
def o_214_1635 (P : Params) : Obj := ⟨(.type "tuple"), none, (.seq ⟨([] : List Value)⟩ 0), ⟨[]⟩⟩
def o_214_1636 (P : Params) : Obj := ⟨.none, none, (.func ⟨"canonical", "Context.canonical", defArgs (inClass (top 213) 32), .stmts (defBody (inClass (top 213) 32)), defScope (inClass (top 213) 32), 0, [], .none, .none, .none, .none, none, .none, .none, 0⟩), ⟨[]⟩⟩
def o_214_1637 (P : Params) : Obj := ⟨(.type "code"), none, (.fields ⟨(([(.str "canonical" 2556), (.str "Context.canonical" 2557), (.str "/claim/cut.py" 2558), (.int (1288) 0), (.int (2) 0), (.int (0) 0), (.int (0) 0), (.int (3) 0), (.ref 1632), (.bool true), (.int (181) 0), (.ref 1633)] : List Value) ++ ([.none, (.ref 1634), (.ref 1635), (.ref 1636), (.int (2561) 0), (.int (1288) 0), (.str "/claim/cut.py" 2562)] : List Value))⟩), ⟨[]⟩⟩
def o_214_1638 (P : Params) : Obj := ⟨(.type "function"), none, (.func ⟨"canonical", "Context.canonical", defArgs (inClass (top 213) 32), .stmts (defBody (inClass (top 213) 32)), defScope (inClass (top 213) 32), 3, [], .none, .none, .none, (.str "tenwhole.contexts" 2254), none, (.ref 1637), .none, 0⟩), ⟨[]⟩⟩
def o_214_1639 (P : Params) : Obj := ⟨(.type "tuple"), none, (.seq ⟨([] : List Value)⟩ 0), ⟨[]⟩⟩
def o_214_1640 (P : Params) : Obj := ⟨.none, none, (.fields ⟨([] : List Value)⟩), ⟨[]⟩⟩
def o_214_1641 (P : Params) : Obj := ⟨(.type "tuple"), none, (.seq ⟨(([(.str "self" 2567), (.str "a" 2568)] : List Value))⟩ 0), ⟨[]⟩⟩
def o_214_1642 (P : Params) : Obj := ⟨(.type "tuple"), none, (.seq ⟨([] : List Value)⟩ 0), ⟨[]⟩⟩
def o_214_1643 (P : Params) : Obj := ⟨.none, none, (.func ⟨"plus", "Context.plus", defArgs (inClass (top 213) 33), .stmts (defBody (inClass (top 213) 33)), defScope (inClass (top 213) 33), 0, [], .none, .none, .none, .none, none, .none, .none, 0⟩), ⟨[]⟩⟩
def o_214_1644 (P : Params) : Obj := ⟨(.type "code"), none, (.fields ⟨(([(.str "plus" 2564), (.str "Context.plus" 2565), (.str "/claim/cut.py" 2566), (.int (1291) 0), (.int (2) 0), (.int (0) 0), (.int (0) 0), (.int (3) 0), (.ref 1639), (.bool true), (.int (181) 0), (.ref 1640)] : List Value) ++ ([.none, (.ref 1641), (.ref 1642), (.ref 1643), (.int (2569) 0), (.int (1291) 0), (.str "/claim/cut.py" 2570)] : List Value))⟩), ⟨[]⟩⟩
def o_214_1645 (P : Params) : Obj := ⟨(.type "function"), none, (.func ⟨"plus", "Context.plus", defArgs (inClass (top 213) 33), .stmts (defBody (inClass (top 213) 33)), defScope (inClass (top 213) 33), 3, [], .none, .none, .none, (.str "tenwhole.contexts" 2254), none, (.ref 1644), .none, 0⟩), ⟨[]⟩⟩
def o_214_1646 (P : Params) : Obj := ⟨(.type "tuple"), none, (.seq ⟨([] : List Value)⟩ 0), ⟨[]⟩⟩
def o_214_1647 (P : Params) : Obj := ⟨.none, none, (.fields ⟨([] : List Value)⟩), ⟨[]⟩⟩
def o_214_1648 (P : Params) : Obj := ⟨(.type "tuple"), none, (.seq ⟨(([(.str "self" 2575), (.str "a" 2576)] : List Value))⟩ 0), ⟨[]⟩⟩
def o_214_1649 (P : Params) : Obj := ⟨(.type "tuple"), none, (.seq ⟨([] : List Value)⟩ 0), ⟨[]⟩⟩
def o_214_1650 (P : Params) : Obj := ⟨.none, none, (.func ⟨"absolute", "Context.absolute", defArgs (inClass (top 213) 34), .stmts (defBody (inClass (top 213) 34)), defScope (inClass (top 213) 34), 0, [], .none, .none, .none, .none, none, .none, .none, 0⟩), ⟨[]⟩⟩
def o_214_1651 (P : Params) : Obj := ⟨(.type "code"), none, (.fields ⟨(([(.str "absolute" 2572), (.str "Context.absolute" 2573), (.str "/claim/cut.py" 2574), (.int (1294) 0), (.int (2) 0), (.int (0) 0), (.int (0) 0), (.int (3) 0), (.ref 1646), (.bool true), (.int (181) 0), (.ref 1647)] : List Value) ++ ([.none, (.ref 1648), (.ref 1649), (.ref 1650), (.int (2577) 0), (.int (1294) 0), (.str "/claim/cut.py" 2578)] : List Value))⟩), ⟨[]⟩⟩
def o_214_1652 (P : Params) : Obj := ⟨(.type "function"), none, (.func ⟨"absolute", "Context.absolute", defArgs (inClass (top 213) 34), .stmts (defBody (inClass (top 213) 34)), defScope (inClass (top 213) 34), 3, [], .none, .none, .none, (.str "tenwhole.contexts" 2254), none, (.ref 1651), .none, 0⟩), ⟨[]⟩⟩
def o_214_1653 (P : Params) : Obj := ⟨(.type "tuple"), none, (.seq ⟨([] : List Value)⟩ 0), ⟨[]⟩⟩
def o_214_1654 (P : Params) : Obj := ⟨.none, none, (.fields ⟨([] : List Value)⟩), ⟨[]⟩⟩
def o_214_1655 (P : Params) : Obj := ⟨(.type "tuple"), none, (.seq ⟨(([(.str "self" 2583), (.str "a" 2584)] : List Value))⟩ 0), ⟨[]⟩⟩
def o_214_1656 (P : Params) : Obj := ⟨(.type "tuple"), none, (.seq ⟨([] : List Value)⟩ 0), ⟨[]⟩⟩
def o_214_1657 (P : Params) : Obj := ⟨.none, none, (.func ⟨"minus", "Context.minus", defArgs (inClass (top 213) 35), .stmts (defBody (inClass (top 213) 35)), defScope (inClass (top 213) 35), 0, [], .none, .none, .none, .none, none, .none, .none, 0⟩), ⟨[]⟩⟩
def o_214_1658 (P : Params) : Obj := ⟨(.type "code"), none, (.fields ⟨(([(.str "minus" 2580), (.str "Context.minus" 2581), (.str "/claim/cut.py" 2582), (.int (1297) 0), (.int (2) 0), (.int (0) 0), (.int (0) 0), (.int (3) 0), (.ref 1653), (.bool true), (.int (181) 0), (.ref 1654)] : List Value) ++ ([.none, (.ref 1655), (.ref 1656), (.ref 1657), (.int (2585) 0), (.int (1297) 0), (.str "/claim/cut.py" 2586)] : List Value))⟩), ⟨[]⟩⟩
def o_214_1659 (P : Params) : Obj := ⟨(.type "function"), none, (.func ⟨"minus", "Context.minus", defArgs (inClass (top 213) 35), .stmts (defBody (inClass (top 213) 35)), defScope (inClass (top 213) 35), 3, [], .none, .none, .none, (.str "tenwhole.contexts" 2254), none, (.ref 1658), .none, 0⟩), ⟨[]⟩⟩
def o_214_1660 (P : Params) : Obj := ⟨(.type "tuple"), none, (.seq ⟨([] : List Value)⟩ 0), ⟨[]⟩⟩
def o_214_1661 (P : Params) : Obj := ⟨.none, none, (.fields ⟨([] : List Value)⟩), ⟨[]⟩⟩
def o_214_1662 (P : Params) : Obj := ⟨(.type "tuple"), none, (.seq ⟨(([(.str "self" 2591), (.str "a" 2592)] : List Value))⟩ 0), ⟨[]⟩⟩
def o_214_1663 (P : Params) : Obj := ⟨(.type "tuple"), none, (.seq ⟨([] : List Value)⟩ 0), ⟨[]⟩⟩
def o_214_1664 (P : Params) : Obj := ⟨.none, none, (.func ⟨"to_integral_exact", "Context.to_integral_exact", defArgs (inClass (top 213) 36), .stmts (defBody (inClass (top 213) 36)), defScope (inClass (top 213) 36), 0, [], .none, .none, .none, .none, none, .none, .none, 0⟩), ⟨[]⟩⟩
def o_214_1665 (P : Params) : Obj := ⟨(.type "code"), none, (.fields ⟨(([(.str "to_integral_exact" 2588), (.str "Context.to_integral_exact" 2589), (.str "/claim/cut.py" 2590), (.int (1300) 0), (.int (2) 0), (.int (0) 0), (.int (0) 0), (.int (3) 0), (.ref 1660), (.bool true), (.int (181) 0), (.ref 1661)] : List Value) ++ ([.none, (.ref 1662), (.ref 1663), (.ref 1664), (.int (2593) 0), (.int (1300) 0), (.str "/claim/cut.py" 2594)] : List Value))⟩), ⟨[]⟩⟩
def o_214_1666 (P : Params) : Obj := ⟨(.type "function"), none, (.func ⟨"to_integral_exact", "Context.to_integral_exact", defArgs (inClass (top 213) 36), .stmts (defBody (inClass (top 213) 36)), defScope (inClass (top 213) 36), 3, [], .none, .none, .none, (.str "tenwhole.contexts" 2254), none, (.ref 1665), .none, 0⟩), ⟨[]⟩⟩
def o_214_1667 (P : Params) : Obj := ⟨(.type "tuple"), none, (.seq ⟨([] : List Value)⟩ 0), ⟨[]⟩⟩
def o_214_1668 (P : Params) : Obj := ⟨.none, none, (.fields ⟨([] : List Value)⟩), ⟨[]⟩⟩
def o_214_1669 (P : Params) : Obj := ⟨(.type "tuple"), none, (.seq ⟨(([(.str "self" 2599), (.str "a" 2600)] : List Value))⟩ 0), ⟨[]⟩⟩
def o_214_1670 (P : Params) : Obj := ⟨(.type "tuple"), none, (.seq ⟨([] : List Value)⟩ 0), ⟨[]⟩⟩
def o_214_1671 (P : Params) : Obj := ⟨.none, none, (.func ⟨"to_integral_value", "Context.to_integral_value", defArgs (inClass (top 213) 37), .stmts (defBody (inClass (top 213) 37)), defScope (inClass (top 213) 37), 0, [], .none, .none, .none, .none, none, .none, .none, 0⟩), ⟨[]⟩⟩
def o_214_1672 (P : Params) : Obj := ⟨(.type "code"), none, (.fields ⟨(([(.str "to_integral_value" 2596), (.str "Context.to_integral_value" 2597), (.str "/claim/cut.py" 2598), (.int (1303) 0), (.int (2) 0), (.int (0) 0), (.int (0) 0), (.int (3) 0), (.ref 1667), (.bool true), (.int (181) 0), (.ref 1668)] : List Value) ++ ([.none, (.ref 1669), (.ref 1670), (.ref 1671), (.int (2601) 0), (.int (1303) 0), (.str "/claim/cut.py" 2602)] : List Value))⟩), ⟨[]⟩⟩
def o_214_1673 (P : Params) : Obj := ⟨(.type "function"), none, (.func ⟨"to_integral_value", "Context.to_integral_value", defArgs (inClass (top 213) 37), .stmts (defBody (inClass (top 213) 37)), defScope (inClass (top 213) 37), 3, [], .none, .none, .none, (.str "tenwhole.contexts" 2254), none, (.ref 1672), .none, 0⟩), ⟨[]⟩⟩
def o_214_1674 (P : Params) : Obj := ⟨(.type "tuple"), none, (.seq ⟨([] : List Value)⟩ 0), ⟨[]⟩⟩
def o_214_1675 (P : Params) : Obj := ⟨.none, none, (.fields ⟨([] : List Value)⟩), ⟨[]⟩⟩
def o_214_1676 (P : Params) : Obj := ⟨(.type "tuple"), none, (.seq ⟨(([(.str "self" 2607), (.str "a" 2608)] : List Value))⟩ 0), ⟨[]⟩⟩
def o_214_1677 (P : Params) : Obj := ⟨(.type "tuple"), none, (.seq ⟨([] : List Value)⟩ 0), ⟨[]⟩⟩
def o_214_1678 (P : Params) : Obj := ⟨.none, none, (.func ⟨"normalize", "Context.normalize", defArgs (inClass (top 213) 38), .stmts (defBody (inClass (top 213) 38)), defScope (inClass (top 213) 38), 0, [], .none, .none, .none, .none, none, .none, .none, 0⟩), ⟨[]⟩⟩
def o_214_1679 (P : Params) : Obj := ⟨(.type "code"), none, (.fields ⟨(([(.str "normalize" 2604), (.str "Context.normalize" 2605), (.str "/claim/cut.py" 2606), (.int (1306) 0), (.int (2) 0), (.int (0) 0), (.int (0) 0), (.int (3) 0), (.ref 1674), (.bool true), (.int (181) 0), (.ref 1675)] : List Value) ++ ([.none, (.ref 1676), (.ref 1677), (.ref 1678), (.int (2609) 0), (.int (1306) 0), (.str "/claim/cut.py" 2610)] : List Value))⟩), ⟨[]⟩⟩
def o_214_1680 (P : Params) : Obj := ⟨(.type "function"), none, (.func ⟨"normalize", "Context.normalize", defArgs (inClass (top 213) 38), .stmts (defBody (inClass (top 213) 38)), defScope (inClass (top 213) 38), 3, [], .none, .none, .none, (.str "tenwhole.contexts" 2254), none, (.ref 1679), .none, 0⟩), ⟨[]⟩⟩
def o_214_1681 (P : Params) : Obj := ⟨(.type "tuple"), none, (.seq ⟨([] : List Value)⟩ 0), ⟨[]⟩⟩
def o_214_1682 (P : Params) : Obj := ⟨.none, none, (.fields ⟨([] : List Value)⟩), ⟨[]⟩⟩
def o_214_1683 (P : Params) : Obj := ⟨(.type "tuple"), none, (.seq ⟨(([(.str "self" 2615), (.str "a" 2616)] : List Value))⟩ 0), ⟨[]⟩⟩
def o_214_1684 (P : Params) : Obj := ⟨(.type "tuple"), none, (.seq ⟨([] : List Value)⟩ 0), ⟨[]⟩⟩
def o_214_1685 (P : Params) : Obj := ⟨.none, none, (.func ⟨"number_class", "Context.number_class", defArgs (inClass (top 213) 39), .stmts (defBody (inClass (top 213) 39)), defScope (inClass (top 213) 39), 0, [], .none, .none, .none, .none, none, .none, .none, 0⟩), ⟨[]⟩⟩
def o_214_1686 (P : Params) : Obj := ⟨(.type "code"), none, (.fields ⟨(([(.str "number_class" 2612), (.str "Context.number_class" 2613), (.str "/claim/cut.py" 2614), (.int (1309) 0), (.int (2) 0), (.int (0) 0), (.int (0) 0), (.int (3) 0), (.ref 1681), (.bool true), (.int (181) 0), (.ref 1682)] : List Value) ++ ([.none, (.ref 1683), (.ref 1684), (.ref 1685), (.int (2617) 0), (.int (1309) 0), (.str "/claim/cut.py" 2618)] : List Value))⟩), ⟨[]⟩⟩
def o_214_1687 (P : Params) : Obj := ⟨(.type "function"), none, (.func ⟨"number_class", "Context.number_class", defArgs (inClass (top 213) 39), .stmts (defBody (inClass (top 213) 39)), defScope (inClass (top 213) 39), 3, [], .none, .none, .none, (.str "tenwhole.contexts" 2254), none, (.ref 1686), .none, 0⟩), ⟨[]⟩⟩
def o_214_1688 (P : Params) : Obj := ⟨(.type "tuple"), none, (.seq ⟨([] : List Value)⟩ 0), ⟨[]⟩⟩
def o_214_1689 (P : Params) : Obj := ⟨.none, none, (.fields ⟨([] : List Value)⟩), ⟨[]⟩⟩
def o_214_1690 (P : Params) : Obj := ⟨(.type "tuple"), none, (.seq ⟨(([(.str "self" 2623), (.str "a" 2624)] : List Value))⟩ 0), ⟨[]⟩⟩
def o_214_1691 (P : Params) : Obj := ⟨(.type "tuple"), none, (.seq ⟨([] : List Value)⟩ 0), ⟨[]⟩⟩
def o_214_1692 (P : Params) : Obj := ⟨.none, none, (.func ⟨"is_normal", "Context.is_normal", defArgs (inClass (top 213) 40), .stmts (defBody (inClass (top 213) 40)), defScope (inClass (top 213) 40), 0, [], .none, .none, .none, .none, none, .none, .none, 0⟩), ⟨[]⟩⟩
def o_214_1693 (P : Params) : Obj := ⟨(.type "code"), none, (.fields ⟨(([(.str "is_normal" 2620), (.str "Context.is_normal" 2621), (.str "/claim/cut.py" 2622), (.int (1312) 0), (.int (2) 0), (.int (0) 0), (.int (0) 0), (.int (3) 0), (.ref 1688), (.bool true), (.int (181) 0), (.ref 1689)] : List Value) ++ ([.none, (.ref 1690), (.ref 1691), (.ref 1692), (.int (2625) 0), (.int (1312) 0), (.str "/claim/cut.py" 2626)] : List Value))⟩), ⟨[]⟩⟩
def o_214_1694 (P : Params) : Obj := ⟨(.type "function"), none, (.func ⟨"is_normal", "Context.is_normal", defArgs (inClass (top 213) 40), .stmts (defBody (inClass (top 213) 40)), defScope (inClass (top 213) 40), 3, [], .none, .none, .none, (.str "tenwhole.contexts" 2254), none, (.ref 1693), .none, 0⟩), ⟨[]⟩⟩
def o_214_1695 (P : Params) : Obj := ⟨(.type "tuple"), none, (.seq ⟨([] : List Value)⟩ 0), ⟨[]⟩⟩
def o_214_1696 (P : Params) : Obj := ⟨.none, none, (.fields ⟨([] : List Value)⟩), ⟨[]⟩⟩
def o_214_1697 (P : Params) : Obj := ⟨(.type "tuple"), none, (.seq ⟨(([(.str "self" 2631), (.str "a" 2632)] : List Value))⟩ 0), ⟨[]⟩⟩
def o_214_1698 (P : Params) : Obj := ⟨(.type "tuple"), none, (.seq ⟨([] : List Value)⟩ 0), ⟨[]⟩⟩
def o_214_1699 (P : Params) : Obj := ⟨.none, none, (.func ⟨"is_subnormal", "Context.is_subnormal", defArgs (inClass (top 213) 41), .stmts (defBody (inClass (top 213) 41)), defScope (inClass (top 213) 41), 0, [], .none, .none, .none, .none, none, .none, .none, 0⟩), ⟨[]⟩⟩
def o_214_1700 (P : Params) : Obj := ⟨(.type "code"), none, (.fields ⟨(([(.str "is_subnormal" 2628), (.str "Context.is_subnormal" 2629), (.str "/claim/cut.py" 2630), (.int (1315) 0), (.int (2) 0), (.int (0) 0), (.int (0) 0), (.int (3) 0), (.ref 1695), (.bool true), (.int (181) 0), (.ref 1696)] : List Value) ++ ([.none, (.ref 1697), (.ref 1698), (.ref 1699), (.int (2633) 0), (.int (1315) 0), (.str "/claim/cut.py" 2634)] : List Value))⟩), ⟨[]⟩⟩
def o_214_1701 (P : Params) : Obj := ⟨(.type "function"), none, (.func ⟨"is_subnormal", "Context.is_subnormal", defArgs (inClass (top 213) 41), .stmts (defBody (inClass (top 213) 41)), defScope (inClass (top 213) 41), 3, [], .none, .none, .none, (.str "tenwhole.contexts" 2254), none, (.ref 1700), .none, 0⟩), ⟨[]⟩⟩
def o_214_1702 (P : Params) : Obj := ⟨(.type "tuple"), none, (.seq ⟨([] : List Value)⟩ 0), ⟨[]⟩⟩
def o_214_1703 (P : Params) : Obj := ⟨.none, none, (.fields ⟨([] : List Value)⟩), ⟨[]⟩⟩
def o_214_1704 (P : Params) : Obj := ⟨(.type "tuple"), none, (.seq ⟨(([(.str "self" 2639), (.str "a" 2640)] : List Value))⟩ 0), ⟨[]⟩⟩
def o_214_1705 (P : Params) : Obj := ⟨(.type "tuple"), none, (.seq ⟨([] : List Value)⟩ 0), ⟨[]⟩⟩
def o_214_1706 (P : Params) : Obj := ⟨.none, none, (.func ⟨"next_plus", "Context.next_plus", defArgs (inClass (top 213) 42), .stmts (defBody (inClass (top 213) 42)), defScope (inClass (top 213) 42), 0, [], .none, .none, .none, .none, none, .none, .none, 0⟩), ⟨[]⟩⟩
def o_214_1707 (P : Params) : Obj := ⟨(.type "code"), none, (.fields ⟨(([(.str "next_plus" 2636), (.str "Context.next_plus" 2637), (.str "/claim/cut.py" 2638), (.int (1318) 0), (.int (2) 0), (.int (0) 0), (.int (0) 0), (.int (3) 0), (.ref 1702), (.bool true), (.int (181) 0), (.ref 1703)] : List Value) ++ ([.none, (.ref 1704), (.ref 1705), (.ref 1706), (.int (2641) 0), (.int (1318) 0), (.str "/claim/cut.py" 2642)] : List Value))⟩), ⟨[]⟩⟩
def o_214_1708 (P : Params) : Obj := ⟨(.type "function"), none, (.func ⟨"next_plus", "Context.next_plus", defArgs (inClass (top 213) 42), .stmts (defBody (inClass (top 213) 42)), defScope (inClass (top 213) 42), 3, [], .none, .none, .none, (.str "tenwhole.contexts" 2254), none, (.ref 1707), .none, 0⟩), ⟨[]⟩⟩
def o_214_1709 (P : Params) : Obj := ⟨(.type "tuple"), none, (.seq ⟨([] : List Value)⟩ 0), ⟨[]⟩⟩
def o_214_1710 (P : Params) : Obj := ⟨.none, none, (.fields ⟨([] : List Value)⟩), ⟨[]⟩⟩
def o_214_1711 (P : Params) : Obj := ⟨(.type "tuple"), none, (.seq ⟨(([(.str "self" 2647), (.str "a" 2648)] : List Value))⟩ 0), ⟨[]⟩⟩
def o_214_1712 (P : Params) : Obj := ⟨(.type "tuple"), none, (.seq ⟨([] : List Value)⟩ 0), ⟨[]⟩⟩
def o_214_1713 (P : Params) : Obj := ⟨.none, none, (.func ⟨"next_minus", "Context.next_minus", defArgs (inClass (top 213) 43), .stmts (defBody (inClass (top 213) 43)), defScope (inClass (top 213) 43), 0, [], .none, .none, .none, .none, none, .none, .none, 0⟩), ⟨[]⟩⟩
def o_214_1714 (P : Params) : Obj := ⟨(.type "code"), none, (.fields ⟨(([(.str "next_minus" 2644), (.str "Context.next_minus" 2645), (.str "/claim/cut.py" 2646), (.int (1321) 0), (.int (2) 0), (.int (0) 0), (.int (0) 0), (.int (3) 0), (.ref 1709), (.bool true), (.int (181) 0), (.ref 1710)] : List Value) ++ ([.none, (.ref 1711), (.ref 1712), (.ref 1713), (.int (2649) 0), (.int (1321) 0), (.str "/claim/cut.py" 2650)] : List Value))⟩), ⟨[]⟩⟩
def o_214_1715 (P : Params) : Obj := ⟨(.type "function"), none, (.func ⟨"next_minus", "Context.next_minus", defArgs (inClass (top 213) 43), .stmts (defBody (inClass (top 213) 43)), defScope (inClass (top 213) 43), 3, [], .none, .none, .none, (.str "tenwhole.contexts" 2254), none, (.ref 1714), .none, 0⟩), ⟨[]⟩⟩
def o_214_1716 (P : Params) : Obj := ⟨(.type "tuple"), none, (.seq ⟨([] : List Value)⟩ 0), ⟨[]⟩⟩
def o_214_1717 (P : Params) : Obj := ⟨.none, none, (.fields ⟨([] : List Value)⟩), ⟨[]⟩⟩
def o_214_1718 (P : Params) : Obj := ⟨(.type "tuple"), none, (.seq ⟨(([(.str "self" 2655), (.str "a" 2656)] : List Value))⟩ 0), ⟨[]⟩⟩
def o_214_1719 (P : Params) : Obj := ⟨(.type "tuple"), none, (.seq ⟨([] : List Value)⟩ 0), ⟨[]⟩⟩
def o_214_1720 (P : Params) : Obj := ⟨.none, none, (.func ⟨"logb", "Context.logb", defArgs (inClass (top 213) 44), .stmts (defBody (inClass (top 213) 44)), defScope (inClass (top 213) 44), 0, [], .none, .none, .none, .none, none, .none, .none, 0⟩), ⟨[]⟩⟩
def o_214_1721 (P : Params) : Obj := ⟨(.type "code"), none, (.fields ⟨(([(.str "logb" 2652), (.str "Context.logb" 2653), (.str "/claim/cut.py" 2654), (.int (1324) 0), (.int (2) 0), (.int (0) 0), (.int (0) 0), (.int (3) 0), (.ref 1716), (.bool true), (.int (181) 0), (.ref 1717)] : List Value) ++ ([.none, (.ref 1718), (.ref 1719), (.ref 1720), (.int (2657) 0), (.int (1324) 0), (.str "/claim/cut.py" 2658)] : List Value))⟩), ⟨[]⟩⟩
def o_214_1722 (P : Params) : Obj := ⟨(.type "function"), none, (.func ⟨"logb", "Context.logb", defArgs (inClass (top 213) 44), .stmts (defBody (inClass (top 213) 44)), defScope (inClass (top 213) 44), 3, [], .none, .none, .none, (.str "tenwhole.contexts" 2254), none, (.ref 1721), .none, 0⟩), ⟨[]⟩⟩
def o_214_1723 (P : Params) : Obj := ⟨(.type "tuple"), none, (.seq ⟨([] : List Value)⟩ 0), ⟨[]⟩⟩
def o_214_1724 (P : Params) : Obj := ⟨.none, none, (.fields ⟨([] : List Value)⟩), ⟨[]⟩⟩
def o_214_1725 (P : Params) : Obj := ⟨(.type "tuple"), none, (.seq ⟨(([(.str "self" 2663), (.str "a" 2664)] : List Value))⟩ 0), ⟨[]⟩⟩
def o_214_1726 (P : Params) : Obj := ⟨(.type "tuple"), none, (.seq ⟨([] : List Value)⟩ 0), ⟨[]⟩⟩
def o_214_1727 (P : Params) : Obj := ⟨.none, none, (.func ⟨"logical_invert", "Context.logical_invert", defArgs (inClass (top 213) 45), .stmts (defBody (inClass (top 213) 45)), defScope (inClass (top 213) 45), 0, [], .none, .none, .none, .none, none, .none, .none, 0⟩), ⟨[]⟩⟩
def o_214_1728 (P : Params) : Obj := ⟨(.type "code"), none, (.fields ⟨(([(.str "logical_invert" 2660), (.str "Context.logical_invert" 2661), (.str "/claim/cut.py" 2662), (.int (1327) 0), (.int (2) 0), (.int (0) 0), (.int (0) 0), (.int (3) 0), (.ref 1723), (.bool true), (.int (181) 0), (.ref 1724)] : List Value) ++ ([.none, (.ref 1725), (.ref 1726), (.ref 1727), (.int (2665) 0), (.int (1327) 0), (.str "/claim/cut.py" 2666)] : List Value))⟩), ⟨[]⟩⟩
def o_214_1729 (P : Params) : Obj := ⟨(.type "function"), none, (.func ⟨"logical_invert", "Context.logical_invert", defArgs (inClass (top 213) 45), .stmts (defBody (inClass (top 213) 45)), defScope (inClass (top 213) 45), 3, [], .none, .none, .none, (.str "tenwhole.contexts" 2254), none, (.ref 1728), .none, 0⟩), ⟨[]⟩⟩
def o_214_1730 (P : Params) : Obj := ⟨(.type "tuple"), none, (.seq ⟨([] : List Value)⟩ 0), ⟨[]⟩⟩
def o_214_1731 (P : Params) : Obj := ⟨.none, none, (.fields ⟨([] : List Value)⟩), ⟨[]⟩⟩
def o_214_1732 (P : Params) : Obj := ⟨(.type "tuple"), none, (.seq ⟨(([(.str "self" 2671), (.str "a" 2672)] : List Value))⟩ 0), ⟨[]⟩⟩
def o_214_1733 (P : Params) : Obj := ⟨(.type "tuple"), none, (.seq ⟨([] : List Value)⟩ 0), ⟨[]⟩⟩
def o_214_1734 (P : Params) : Obj := ⟨.none, none, (.func ⟨"sqrt", "Context.sqrt", defArgs (inClass (top 213) 46), .stmts (defBody (inClass (top 213) 46)), defScope (inClass (top 213) 46), 0, [], .none, .none, .none, .none, none, .none, .none, 0⟩), ⟨[]⟩⟩
def o_214_1735 (P : Params) : Obj := ⟨(.type "code"), none, (.fields ⟨(([(.str "sqrt" 2668), (.str "Context.sqrt" 2669), (.str "/claim/cut.py" 2670), (.int (1330) 0), (.int (2) 0), (.int (0) 0), (.int (0) 0), (.int (3) 0), (.ref 1730), (.bool true), (.int (181) 0), (.ref 1731)] : List Value) ++ ([.none, (.ref 1732), (.ref 1733), (.ref 1734), (.int (2673) 0), (.int (1330) 0), (.str "/claim/cut.py" 2674)] : List Value))⟩), ⟨[]⟩⟩
def o_214_1736 (P : Params) : Obj := ⟨(.type "function"), none, (.func ⟨"sqrt", "Context.sqrt", defArgs (inClass (top 213) 46), .stmts (defBody (inClass (top 213) 46)), defScope (inClass (top 213) 46), 3, [], .none, .none, .none, (.str "tenwhole.contexts" 2254), none, (.ref 1735), .none, 0⟩), ⟨[]⟩⟩
def o_214_1737 (P : Params) : Obj := ⟨(.type "tuple"), none, (.seq ⟨([] : List Value)⟩ 0), ⟨[]⟩⟩
def o_214_1738 (P : Params) : Obj := ⟨.none, none, (.fields ⟨([] : List Value)⟩), ⟨[]⟩⟩
def o_214_1739 (P : Params) : Obj := ⟨(.type "tuple"), none, (.seq ⟨(([(.str "self" 2679), (.str "a" 2680)] : List Value))⟩ 0), ⟨[]⟩⟩
def o_214_1740 (P : Params) : Obj := ⟨(.type "tuple"), none, (.seq ⟨([] : List Value)⟩ 0), ⟨[]⟩⟩
def o_214_1741 (P : Params) : Obj := ⟨.none, none, (.func ⟨"exp", "Context.exp", defArgs (inClass (top 213) 47), .stmts (defBody (inClass (top 213) 47)), defScope (inClass (top 213) 47), 0, [], .none, .none, .none, .none, none, .none, .none, 0⟩), ⟨[]⟩⟩
def o_214_1742 (P : Params) : Obj := ⟨(.type "code"), none, (.fields ⟨(([(.str "exp" 2676), (.str "Context.exp" 2677), (.str "/claim/cut.py" 2678), (.int (1333) 0), (.int (2) 0), (.int (0) 0), (.int (0) 0), (.int (3) 0), (.ref 1737), (.bool true), (.int (181) 0), (.ref 1738)] : List Value) ++ ([.none, (.ref 1739), (.ref 1740), (.ref 1741), (.int (2681) 0), (.int (1333) 0), (.str "/claim/cut.py" 2682)] : List Value))⟩), ⟨[]⟩⟩
def o_214_1743 (P : Params) : Obj := ⟨(.type "function"), none, (.func ⟨"exp", "Context.exp", defArgs (inClass (top 213) 47), .stmts (defBody (inClass (top 213) 47)), defScope (inClass (top 213) 47), 3, [], .none, .none, .none, (.str "tenwhole.contexts" 2254), none, (.ref 1742), .none, 0⟩), ⟨[]⟩⟩
def o_214_1744 (P : Params) : Obj := ⟨(.type "tuple"), none, (.seq ⟨([] : List Value)⟩ 0), ⟨[]⟩⟩
def o_214_1745 (P : Params) : Obj := ⟨.none, none, (.fields ⟨([] : List Value)⟩), ⟨[]⟩⟩
def o_214_1746 (P : Params) : Obj := ⟨(.type "tuple"), none, (.seq ⟨(([(.str "self" 2687), (.str "a" 2688)] : List Value))⟩ 0), ⟨[]⟩⟩
def o_214_1747 (P : Params) : Obj := ⟨(.type "tuple"), none, (.seq ⟨([] : List Value)⟩ 0), ⟨[]⟩⟩
def o_214_1748 (P : Params) : Obj := ⟨.none, none, (.func ⟨"ln", "Context.ln", defArgs (inClass (top 213) 48), .stmts (defBody (inClass (top 213) 48)), defScope (inClass (top 213) 48), 0, [], .none, .none, .none, .none, none, .none, .none, 0⟩), ⟨[]⟩⟩
def o_214_1749 (P : Params) : Obj := ⟨(.type "code"), none, (.fields ⟨(([(.str "ln" 2684), (.str "Context.ln" 2685), (.str "/claim/cut.py" 2686), (.int (1336) 0), (.int (2) 0), (.int (0) 0), (.int (0) 0), (.int (3) 0), (.ref 1744), (.bool true), (.int (181) 0), (.ref 1745)] : List Value) ++ ([.none, (.ref 1746), (.ref 1747), (.ref 1748), (.int (2689) 0), (.int (1336) 0), (.str "/claim/cut.py" 2690)] : List Value))⟩), ⟨[]⟩⟩
def o_214_1750 (P : Params) : Obj := ⟨(.type "function"), none, (.func ⟨"ln", "Context.ln", defArgs (inClass (top 213) 48), .stmts (defBody (inClass (top 213) 48)), defScope (inClass (top 213) 48), 3, [], .none, .none, .none, (.str "tenwhole.contexts" 2254), none, (.ref 1749), .none, 0⟩), ⟨[]⟩⟩
def o_214_1751 (P : Params) : Obj := ⟨(.type "tuple"), none, (.seq ⟨([] : List Value)⟩ 0), ⟨[]⟩⟩
def o_214_1752 (P : Params) : Obj := ⟨.none, none, (.fields ⟨([] : List Value)⟩), ⟨[]⟩⟩
def o_214_1753 (P : Params) : Obj := ⟨(.type "tuple"), none, (.seq ⟨(([(.str "self" 2695), (.str "a" 2696)] : List Value))⟩ 0), ⟨[]⟩⟩
def o_214_1754 (P : Params) : Obj := ⟨(.type "tuple"), none, (.seq ⟨([] : List Value)⟩ 0), ⟨[]⟩⟩
def o_214_1755 (P : Params) : Obj := ⟨.none, none, (.func ⟨"log10", "Context.log10", defArgs (inClass (top 213) 49), .stmts (defBody (inClass (top 213) 49)), defScope (inClass (top 213) 49), 0, [], .none, .none, .none, .none, none, .none, .none, 0⟩), ⟨[]⟩⟩
def o_214_1756 (P : Params) : Obj := ⟨(.type "code"), none, (.fields ⟨(([(.str "log10" 2692), (.str "Context.log10" 2693), (.str "/claim/cut.py" 2694), (.int (1339) 0), (.int (2) 0), (.int (0) 0), (.int (0) 0), (.int (3) 0), (.ref 1751), (.bool true), (.int (181) 0), (.ref 1752)] : List Value) ++ ([.none, (.ref 1753), (.ref 1754), (.ref 1755), (.int (2697) 0), (.int (1339) 0), (.str "/claim/cut.py" 2698)] : List Value))⟩), ⟨[]⟩⟩
def o_214_1757 (P : Params) : Obj := ⟨(.type "function"), none, (.func ⟨"log10", "Context.log10", defArgs (inClass (top 213) 49), .stmts (defBody (inClass (top 213) 49)), defScope (inClass (top 213) 49), 3, [], .none, .none, .none, (.str "tenwhole.contexts" 2254), none, (.ref 1756), .none, 0⟩), ⟨[]⟩⟩
def o_214_1758 (P : Params) : Obj := ⟨(.type "tuple"), none, (.seq ⟨([] : List Value)⟩ 0), ⟨[]⟩⟩
def o_214_1759 (P : Params) : Obj := ⟨.none, none, (.fields ⟨([] : List Value)⟩), ⟨[]⟩⟩
def o_214_1760 (P : Params) : Obj := ⟨(.type "tuple"), none, (.seq ⟨(([(.str "self" 2703), (.str "a" 2704), (.str "b" 2705)] : List Value))⟩ 0), ⟨[]⟩⟩
def o_214_1761 (P : Params) : Obj := ⟨(.type "tuple"), none, (.seq ⟨([] : List Value)⟩ 0), ⟨[]⟩⟩
def o_214_1762 (P : Params) : Obj := ⟨.none, none, (.func ⟨"add", "Context.add", defArgs (inClass (top 213) 50), .stmts (defBody (inClass (top 213) 50)), defScope (inClass (top 213) 50), 0, [], .none, .none, .none, .none, none, .none, .none, 0⟩), ⟨[]⟩⟩
def o_214_1763 (P : Params) : Obj := ⟨(.type "code"), none, (.fields ⟨(([(.str "add" 2700), (.str "Context.add" 2701), (.str "/claim/cut.py" 2702), (.int (1342) 0), (.int (3) 0), (.int (0) 0), (.int (0) 0), (.int (3) 0), (.ref 1758), (.bool true), (.int (181) 0), (.ref 1759)] : List Value) ++ ([.none, (.ref 1760), (.ref 1761), (.ref 1762), (.int (2706) 0), (.int (1342) 0), (.str "/claim/cut.py" 2707)] : List Value))⟩), ⟨[]⟩⟩
def o_214_1764 (P : Params) : Obj := ⟨(.type "function"), none, (.func ⟨"add", "Context.add", defArgs (inClass (top 213) 50), .stmts (defBody (inClass (top 213) 50)), defScope (inClass (top 213) 50), 3, [], .none, .none, .none, (.str "tenwhole.contexts" 2254), none, (.ref 1763), .none, 0⟩), ⟨[]⟩⟩
def o_214_1765 (P : Params) : Obj := ⟨(.type "tuple"), none, (.seq ⟨([] : List Value)⟩ 0), ⟨[]⟩⟩
def o_214_1766 (P : Params) : Obj := ⟨.none, none, (.fields ⟨([] : List Value)⟩), ⟨[]⟩⟩
def o_214_1767 (P : Params) : Obj := ⟨(.type "tuple"), none, (.seq ⟨(([(.str "self" 2712), (.str "a" 2713), (.str "b" 2714)] : List Value))⟩ 0), ⟨[]⟩⟩
def o_214_1768 (P : Params) : Obj := ⟨(.type "tuple"), none, (.seq ⟨([] : List Value)⟩ 0), ⟨[]⟩⟩
def o_214_1769 (P : Params) : Obj := ⟨.none, none, (.func ⟨"subtract", "Context.subtract", defArgs (inClass (top 213) 51), .stmts (defBody (inClass (top 213) 51)), defScope (inClass (top 213) 51), 0, [], .none, .none, .none, .none, none, .none, .none, 0⟩), ⟨[]⟩⟩
def o_214_1770 (P : Params) : Obj := ⟨(.type "code"), none, (.fields ⟨(([(.str "subtract" 2709), (.str "Context.subtract" 2710), (.str "/claim/cut.py" 2711), (.int (1345) 0), (.int (3) 0), (.int (0) 0), (.int (0) 0), (.int (3) 0), (.ref 1765), (.bool true), (.int (181) 0), (.ref 1766)] : List Value) ++ ([.none, (.ref 1767), (.ref 1768), (.ref 1769), (.int (2715) 0), (.int (1345) 0), (.str "/claim/cut.py" 2716)] : List Value))⟩), ⟨[]⟩⟩
def o_214_1771 (P : Params) : Obj := ⟨(.type "function"), none, (.func ⟨"subtract", "Context.subtract", defArgs (inClass (top 213) 51), .stmts (defBody (inClass (top 213) 51)), defScope (inClass (top 213) 51), 3, [], .none, .none, .none, (.str "tenwhole.contexts" 2254), none, (.ref 1770), .none, 0⟩), ⟨[]⟩⟩
def o_214_1772 (P : Params) : Obj := ⟨(.type "tuple"), none, (.seq ⟨([] : List Value)⟩ 0), ⟨[]⟩⟩
def o_214_1773 (P : Params) : Obj := ⟨.none, none, (.fields ⟨([] : List Value)⟩), ⟨[]⟩⟩
def o_214_1774 (P : Params) : Obj := ⟨(.type "tuple"), none, (.seq ⟨(([(.str "self" 2721), (.str "a" 2722), (.str "b" 2723)] : List Value))⟩ 0), ⟨[]⟩⟩
def o_214_1775 (P : Params) : Obj := ⟨(.type "tuple"), none, (.seq ⟨([] : List Value)⟩ 0), ⟨[]⟩⟩
def o_214_1776 (P : Params) : Obj := ⟨.none, none, (.func ⟨"multiply", "Context.multiply", defArgs (inClass (top 213) 52), .stmts (defBody (inClass (top 213) 52)), defScope (inClass (top 213) 52), 0, [], .none, .none, .none, .none, none, .none, .none, 0⟩), ⟨[]⟩⟩
def o_214_1777 (P : Params) : Obj := ⟨(.type "code"), none, (.fields ⟨(([(.str "multiply" 2718), (.str "Context.multiply" 2719), (.str "/claim/cut.py" 2720), (.int (1348) 0), (.int (3) 0), (.int (0) 0), (.int (0) 0), (.int (3) 0), (.ref 1772), (.bool true), (.int (181) 0), (.ref 1773)] : List Value) ++ ([.none, (.ref 1774), (.ref 1775), (.ref 1776), (.int (2724) 0), (.int (1348) 0), (.str "/claim/cut.py" 2725)] : List Value))⟩), ⟨[]⟩⟩
def o_214_1778 (P : Params) : Obj := ⟨(.type "function"), none, (.func ⟨"multiply", "Context.multiply", defArgs (inClass (top 213) 52), .stmts (defBody (inClass (top 213) 52)), defScope (inClass (top 213) 52), 3, [], .none, .none, .none, (.str "tenwhole.contexts" 2254), none, (.ref 1777), .none, 0⟩), ⟨[]⟩⟩
def o_214_1779 (P : Params) : Obj := ⟨(.type "tuple"), none, (.seq ⟨([] : List Value)⟩ 0), ⟨[]⟩⟩
def o_214_1780 (P : Params) : Obj := ⟨.none, none, (.fields ⟨([] : List Value)⟩), ⟨[]⟩⟩
def o_214_1781 (P : Params) : Obj := ⟨(.type "tuple"), none, (.seq ⟨(([(.str "self" 2730), (.str "a" 2731), (.str "b" 2732)] : List Value))⟩ 0), ⟨[]⟩⟩
def o_214_1782 (P : Params) : Obj := ⟨(.type "tuple"), none, (.seq ⟨([] : List Value)⟩ 0), ⟨[]⟩⟩
def o_214_1783 (P : Params) : Obj := ⟨.none, none, (.func ⟨"divide", "Context.divide", defArgs (inClass (top 213) 53), .stmts (defBody (inClass (top 213) 53)), defScope (inClass (top 213) 53), 0, [], .none, .none, .none, .none, none, .none, .none, 0⟩), ⟨[]⟩⟩
def o_214_1784 (P : Params) : Obj := ⟨(.type "code"), none, (.fields ⟨(([(.str "divide" 2727), (.str "Context.divide" 2728), (.str "/claim/cut.py" 2729), (.int (1351) 0), (.int (3) 0), (.int (0) 0), (.int (0) 0), (.int (3) 0), (.ref 1779), (.bool true), (.int (181) 0), (.ref 1780)] : List Value) ++ ([.none, (.ref 1781), (.ref 1782), (.ref 1783), (.int (2733) 0), (.int (1351) 0), (.str "/claim/cut.py" 2734)] : List Value))⟩), ⟨[]⟩⟩
def o_214_1785 (P : Params) : Obj := ⟨(.type "function"), none, (.func ⟨"divide", "Context.divide", defArgs (inClass (top 213) 53), .stmts (defBody (inClass (top 213) 53)), defScope (inClass (top 213) 53), 3, [], .none, .none, .none, (.str "tenwhole.contexts" 2254), none, (.ref 1784), .none, 0⟩), ⟨[]⟩⟩
def o_214_1786 (P : Params) : Obj := ⟨(.type "tuple"), none, (.seq ⟨([] : List Value)⟩ 0), ⟨[]⟩⟩
def o_214_1787 (P : Params) : Obj := ⟨.none, none, (.fields ⟨([] : List Value)⟩), ⟨[]⟩⟩
def o_214_1788 (P : Params) : Obj := ⟨(.type "tuple"), none, (.seq ⟨(([(.str "self" 2739), (.str "a" 2740), (.str "b" 2741)] : List Value))⟩ 0), ⟨[]⟩⟩
def o_214_1789 (P : Params) : Obj := ⟨(.type "tuple"), none, (.seq ⟨([] : List Value)⟩ 0), ⟨[]⟩⟩
def o_214_1790 (P : Params) : Obj := ⟨.none, none, (.func ⟨"divide_int", "Context.divide_int", defArgs (inClass (top 213) 54), .stmts (defBody (inClass (top 213) 54)), defScope (inClass (top 213) 54), 0, [], .none, .none, .none, .none, none, .none, .none, 0⟩), ⟨[]⟩⟩
def o_214_1791 (P : Params) : Obj := ⟨(.type "code"), none, (.fields ⟨(([(.str "divide_int" 2736), (.str "Context.divide_int" 2737), (.str "/claim/cut.py" 2738), (.int (1354) 0), (.int (3) 0), (.int (0) 0), (.int (0) 0), (.int (3) 0), (.ref 1786), (.bool true), (.int (181) 0), (.ref 1787)] : List Value) ++ ([.none, (.ref 1788), (.ref 1789), (.ref 1790), (.int (2742) 0), (.int (1354) 0), (.str "/claim/cut.py" 2743)] : List Value))⟩), ⟨[]⟩⟩
def o_214_1792 (P : Params) : Obj := ⟨(.type "function"), none, (.func ⟨"divide_int", "Context.divide_int", defArgs (inClass (top 213) 54), .stmts (defBody (inClass (top 213) 54)), defScope (inClass (top 213) 54), 3, [], .none, .none, .none, (.str "tenwhole.contexts" 2254), none, (.ref 1791), .none, 0⟩), ⟨[]⟩⟩
def o_214_1793 (P : Params) : Obj := ⟨(.type "tuple"), none, (.seq ⟨([] : List Value)⟩ 0), ⟨[]⟩⟩
def o_214_1794 (P : Params) : Obj := ⟨.none, none, (.fields ⟨([] : List Value)⟩), ⟨[]⟩⟩
def o_214_1795 (P : Params) : Obj := ⟨(.type "tuple"), none, (.seq ⟨(([(.str "self" 2748), (.str "a" 2749), (.str "b" 2750)] : List Value))⟩ 0), ⟨[]⟩⟩
def o_214_1796 (P : Params) : Obj := ⟨(.type "tuple"), none, (.seq ⟨([] : List Value)⟩ 0), ⟨[]⟩⟩
def o_214_1797 (P : Params) : Obj := ⟨.none, none, (.func ⟨"remainder", "Context.remainder", defArgs (inClass (top 213) 55), .stmts (defBody (inClass (top 213) 55)), defScope (inClass (top 213) 55), 0, [], .none, .none, .none, .none, none, .none, .none, 0⟩), ⟨[]⟩⟩
def o_214_1798 (P : Params) : Obj := ⟨(.type "code"), none, (.fields ⟨(([(.str "remainder" 2745), (.str "Context.remainder" 2746), (.str "/claim/cut.py" 2747), (.int (1357) 0), (.int (3) 0), (.int (0) 0), (.int (0) 0), (.int (3) 0), (.ref 1793), (.bool true), (.int (181) 0), (.ref 1794)] : List Value) ++ ([.none, (.ref 1795), (.ref 1796), (.ref 1797), (.int (2751) 0), (.int (1357) 0), (.str "/claim/cut.py" 2752)] : List Value))⟩), ⟨[]⟩⟩
def o_214_1799 (P : Params) : Obj := ⟨(.type "function"), none, (.func ⟨"remainder", "Context.remainder", defArgs (inClass (top 213) 55), .stmts (defBody (inClass (top 213) 55)), defScope (inClass (top 213) 55), 3, [], .none, .none, .none, (.str "tenwhole.contexts" 2254), none, (.ref 1798), .none, 0⟩), ⟨[]⟩⟩
def o_214_1800 (P : Params) : Obj := ⟨(.type "tuple"), none, (.seq ⟨([] : List Value)⟩ 0), ⟨[]⟩⟩
def o_214_1801 (P : Params) : Obj := ⟨.none, none, (.fields ⟨([] : List Value)⟩), ⟨[]⟩⟩
def o_214_1802 (P : Params) : Obj := ⟨(.type "tuple"), none, (.seq ⟨(([(.str "self" 2757), (.str "a" 2758), (.str "b" 2759)] : List Value))⟩ 0), ⟨[]⟩⟩
def o_214_1803 (P : Params) : Obj := ⟨(.type "tuple"), none, (.seq ⟨([] : List Value)⟩ 0), ⟨[]⟩⟩
def o_214_1804 (P : Params) : Obj := ⟨.none, none, (.func ⟨"divide_both", "Context.divide_both", defArgs (inClass (top 213) 56), .stmts (defBody (inClass (top 213) 56)), defScope (inClass (top 213) 56), 0, [], .none, .none, .none, .none, none, .none, .none, 0⟩), ⟨[]⟩⟩
def o_214_1805 (P : Params) : Obj := ⟨(.type "code"), none, (.fields ⟨(([(.str "divide_both" 2754), (.str "Context.divide_both" 2755), (.str "/claim/cut.py" 2756), (.int (1360) 0), (.int (3) 0), (.int (0) 0), (.int (0) 0), (.int (3) 0), (.ref 1800), (.bool true), (.int (181) 0), (.ref 1801)] : List Value) ++ ([.none, (.ref 1802), (.ref 1803), (.ref 1804), (.int (2760) 0), (.int (1360) 0), (.str "/claim/cut.py" 2761)] : List Value))⟩), ⟨[]⟩⟩
def o_214_1806 (P : Params) : Obj := ⟨(.type "function"), none, (.func ⟨"divide_both", "Context.divide_both", defArgs (inClass (top 213) 56), .stmts (defBody (inClass (top 213) 56)), defScope (inClass (top 213) 56), 3, [], .none, .none, .none, (.str "tenwhole.contexts" 2254), none, (.ref 1805), .none, 0⟩), ⟨[]⟩⟩
def o_214_1807 (P : Params) : Obj := ⟨(.type "tuple"), none, (.seq ⟨([] : List Value)⟩ 0), ⟨[]⟩⟩
def o_214_1808 (P : Params) : Obj := ⟨.none, none, (.fields ⟨([] : List Value)⟩), ⟨[]⟩⟩
def o_214_1809 (P : Params) : Obj := ⟨(.type "tuple"), none, (.seq ⟨(([(.str "self" 2766), (.str "a" 2767), (.str "b" 2768)] : List Value))⟩ 0), ⟨[]⟩⟩
def o_214_1810 (P : Params) : Obj := ⟨(.type "tuple"), none, (.seq ⟨([] : List Value)⟩ 0), ⟨[]⟩⟩
def o_214_1811 (P : Params) : Obj := ⟨.none, none, (.func ⟨"remainder_near", "Context.remainder_near", defArgs (inClass (top 213) 57), .stmts (defBody (inClass (top 213) 57)), defScope (inClass (top 213) 57), 0, [], .none, .none, .none, .none, none, .none, .none, 0⟩), ⟨[]⟩⟩
def o_214_1812 (P : Params) : Obj := ⟨(.type "code"), none, (.fields ⟨(([(.str "remainder_near" 2763), (.str "Context.remainder_near" 2764), (.str "/claim/cut.py" 2765), (.int (1363) 0), (.int (3) 0), (.int (0) 0), (.int (0) 0), (.int (3) 0), (.ref 1807), (.bool true), (.int (181) 0), (.ref 1808)] : List Value) ++ ([.none, (.ref 1809), (.ref 1810), (.ref 1811), (.int (2769) 0), (.int (1363) 0), (.str "/claim/cut.py" 2770)] : List Value))⟩), ⟨[]⟩⟩
def o_214_1813 (P : Params) : Obj := ⟨(.type "function"), none, (.func ⟨"remainder_near", "Context.remainder_near", defArgs (inClass (top 213) 57), .stmts (defBody (inClass (top 213) 57)), defScope (inClass (top 213) 57), 3, [], .none, .none, .none, (.str "tenwhole.contexts" 2254), none, (.ref 1812), .none, 0⟩), ⟨[]⟩⟩
def o_214_1814 (P : Params) : Obj := ⟨(.type "tuple"), none, (.seq ⟨([] : List Value)⟩ 0), ⟨[]⟩⟩
def o_214_1815 (P : Params) : Obj := ⟨.none, none, (.fields ⟨([] : List Value)⟩), ⟨[]⟩⟩
def o_214_1816 (P : Params) : Obj := ⟨(.type "tuple"), none, (.seq ⟨(([(.str "self" 2775), (.str "a" 2776), (.str "b" 2777)] : List Value))⟩ 0), ⟨[]⟩⟩
def o_214_1817 (P : Params) : Obj := ⟨(.type "tuple"), none, (.seq ⟨([] : List Value)⟩ 0), ⟨[]⟩⟩
def o_214_1818 (P : Params) : Obj := ⟨.none, none, (.func ⟨"quantize", "Context.quantize", defArgs (inClass (top 213) 58), .stmts (defBody (inClass (top 213) 58)), defScope (inClass (top 213) 58), 0, [], .none, .none, .none, .none, none, .none, .none, 0⟩), ⟨[]⟩⟩
def o_214_1819 (P : Params) : Obj := ⟨(.type "code"), none, (.fields ⟨(([(.str "quantize" 2772), (.str "Context.quantize" 2773), (.str "/claim/cut.py" 2774), (.int (1366) 0), (.int (3) 0), (.int (0) 0), (.int (0) 0), (.int (3) 0), (.ref 1814), (.bool true), (.int (181) 0), (.ref 1815)] : List Value) ++ ([.none, (.ref 1816), (.ref 1817), (.ref 1818), (.int (2778) 0), (.int (1366) 0), (.str "/claim/cut.py" 2779)] : List Value))⟩), ⟨[]⟩⟩
def o_214_1820 (P : Params) : Obj := ⟨(.type "function"), none, (.func ⟨"quantize", "Context.quantize", defArgs (inClass (top 213) 58), .stmts (defBody (inClass (top 213) 58)), defScope (inClass (top 213) 58), 3, [], .none, .none, .none, (.str "tenwhole.contexts" 2254), none, (.ref 1819), .none, 0⟩), ⟨[]⟩⟩
def o_214_1821 (P : Params) : Obj := ⟨(.type "tuple"), none, (.seq ⟨([] : List Value)⟩ 0), ⟨[]⟩⟩
def o_214_1822 (P : Params) : Obj := ⟨.none, none, (.fields ⟨([] : List Value)⟩), ⟨[]⟩⟩
def o_214_1823 (P : Params) : Obj := ⟨(.type "tuple"), none, (.seq ⟨(([(.str "self" 2784), (.str "a" 2785), (.str "b" 2786)] : List Value))⟩ 0), ⟨[]⟩⟩
def o_214_1824 (P : Params) : Obj := ⟨(.type "tuple"), none, (.seq ⟨([] : List Value)⟩ 0), ⟨[]⟩⟩
def o_214_1825 (P : Params) : Obj := ⟨.none, none, (.func ⟨"same_quantum", "Context.same_quantum", defArgs (inClass (top 213) 59), .stmts (defBody (inClass (top 213) 59)), defScope (inClass (top 213) 59), 0, [], .none, .none, .none, .none, none, .none, .none, 0⟩), ⟨[]⟩⟩
def o_214_1826 (P : Params) : Obj := ⟨(.type "code"), none, (.fields ⟨(([(.str "same_quantum" 2781), (.str "Context.same_quantum" 2782), (.str "/claim/cut.py" 2783), (.int (1369) 0), (.int (3) 0), (.int (0) 0), (.int (0) 0), (.int (3) 0), (.ref 1821), (.bool true), (.int (181) 0), (.ref 1822)] : List Value) ++ ([.none, (.ref 1823), (.ref 1824), (.ref 1825), (.int (2787) 0), (.int (1369) 0), (.str "/claim/cut.py" 2788)] : List Value))⟩), ⟨[]⟩⟩
def o_214_1827 (P : Params) : Obj := ⟨(.type "function"), none, (.func ⟨"same_quantum", "Context.same_quantum", defArgs (inClass (top 213) 59), .stmts (defBody (inClass (top 213) 59)), defScope (inClass (top 213) 59), 3, [], .none, .none, .none, (.str "tenwhole.contexts" 2254), none, (.ref 1826), .none, 0⟩), ⟨[]⟩⟩
def o_214_1828 (P : Params) : Obj := ⟨(.type "tuple"), none, (.seq ⟨([] : List Value)⟩ 0), ⟨[]⟩⟩
def o_214_1829 (P : Params) : Obj := ⟨.none, none, (.fields ⟨([] : List Value)⟩), ⟨[]⟩⟩
def o_214_1830 (P : Params) : Obj := ⟨(.type "tuple"), none, (.seq ⟨(([(.str "self" 2793), (.str "a" 2794), (.str "b" 2795)] : List Value))⟩ 0), ⟨[]⟩⟩
def o_214_1831 (P : Params) : Obj := ⟨(.type "tuple"), none, (.seq ⟨([] : List Value)⟩ 0), ⟨[]⟩⟩
def o_214_1832 (P : Params) : Obj := ⟨.none, none, (.func ⟨"compare", "Context.compare", defArgs (inClass (top 213) 60), .stmts (defBody (inClass (top 213) 60)), defScope (inClass (top 213) 60), 0, [], .none, .none, .none, .none, none, .none, .none, 0⟩), ⟨[]⟩⟩
def o_214_1833 (P : Params) : Obj := ⟨(.type "code"), none, (.fields ⟨(([(.str "compare" 2790), (.str "Context.compare" 2791), (.str "/claim/cut.py" 2792), (.int (1372) 0), (.int (3) 0), (.int (0) 0), (.int (0) 0), (.int (3) 0), (.ref 1828), (.bool true), (.int (181) 0), (.ref 1829)] : List Value) ++ ([.none, (.ref 1830), (.ref 1831), (.ref 1832), (.int (2796) 0), (.int (1372) 0), (.str "/claim/cut.py" 2797)] : List Value))⟩), ⟨[]⟩⟩
def o_214_1834 (P : Params) : Obj := ⟨(.type "function"), none, (.func ⟨"compare", "Context.compare", defArgs (inClass (top 213) 60), .stmts (defBody (inClass (top 213) 60)), defScope (inClass (top 213) 60), 3, [], .none, .none, .none, (.str "tenwhole.contexts" 2254), none, (.ref 1833), .none, 0⟩), ⟨[]⟩⟩
def o_214_1835 (P : Params) : Obj := ⟨(.type "tuple"), none, (.seq ⟨([] : List Value)⟩ 0), ⟨[]⟩⟩
def o_214_1836 (P : Params) : Obj := ⟨.none, none, (.fields ⟨([] : List Value)⟩), ⟨[]⟩⟩
def o_214_1837 (P : Params) : Obj := ⟨(.type "tuple"), none, (.seq ⟨(([(.str "self" 2802), (.str "a" 2803), (.str "b" 2804)] : List Value))⟩ 0), ⟨[]⟩⟩
def o_214_1838 (P : Params) : Obj := ⟨(.type "tuple"), none, (.seq ⟨([] : List Value)⟩ 0), ⟨[]⟩⟩
def o_214_1839 (P : Params) : Obj := ⟨.none, none, (.func ⟨"compare_signal", "Context.compare_signal", defArgs (inClass (top 213) 61), .stmts (defBody (inClass (top 213) 61)), defScope (inClass (top 213) 61), 0, [], .none, .none, .none, .none, none, .none, .none, 0⟩), ⟨[]⟩⟩
def o_214_1840 (P : Params) : Obj := ⟨(.type "code"), none, (.fields ⟨(([(.str "compare_signal" 2799), (.str "Context.compare_signal" 2800), (.str "/claim/cut.py" 2801), (.int (1375) 0), (.int (3) 0), (.int (0) 0), (.int (0) 0), (.int (3) 0), (.ref 1835), (.bool true), (.int (181) 0), (.ref 1836)] : List Value) ++ ([.none, (.ref 1837), (.ref 1838), (.ref 1839), (.int (2805) 0), (.int (1375) 0), (.str "/claim/cut.py" 2806)] : List Value))⟩), ⟨[]⟩⟩
def o_214_1841 (P : Params) : Obj := ⟨(.type "function"), none, (.func ⟨"compare_signal", "Context.compare_signal", defArgs (inClass (top 213) 61), .stmts (defBody (inClass (top 213) 61)), defScope (inClass (top 213) 61), 3, [], .none, .none, .none, (.str "tenwhole.contexts" 2254), none, (.ref 1840), .none, 0⟩), ⟨[]⟩⟩
def o_214_1842 (P : Params) : Obj := ⟨(.type "tuple"), none, (.seq ⟨([] : List Value)⟩ 0), ⟨[]⟩⟩
def o_214_1843 (P : Params) : Obj := ⟨.none, none, (.fields ⟨([] : List Value)⟩), ⟨[]⟩⟩
def o_214_1844 (P : Params) : Obj := ⟨(.type "tuple"), none, (.seq ⟨(([(.str "self" 2811), (.str "a" 2812), (.str "b" 2813)] : List Value))⟩ 0), ⟨[]⟩⟩
def o_214_1845 (P : Params) : Obj := ⟨(.type "tuple"), none, (.seq ⟨([] : List Value)⟩ 0), ⟨[]⟩⟩
def o_214_1846 (P : Params) : Obj := ⟨.none, none, (.func ⟨"compare_total", "Context.compare_total", defArgs (inClass (top 213) 62), .stmts (defBody (inClass (top 213) 62)), defScope (inClass (top 213) 62), 0, [], .none, .none, .none, .none, none, .none, .none, 0⟩), ⟨[]⟩⟩
def o_214_1847 (P : Params) : Obj := ⟨(.type "code"), none, (.fields ⟨(([(.str "compare_total" 2808), (.str "Context.compare_total" 2809), (.str "/claim/cut.py" 2810), (.int (1378) 0), (.int (3) 0), (.int (0) 0), (.int (0) 0), (.int (3) 0), (.ref 1842), (.bool true), (.int (181) 0), (.ref 1843)] : List Value) ++ ([.none, (.ref 1844), (.ref 1845), (.ref 1846), (.int (2814) 0), (.int (1378) 0), (.str "/claim/cut.py" 2815)] : List Value))⟩), ⟨[]⟩⟩
def o_214_1848 (P : Params) : Obj := ⟨(.type "function"), none, (.func ⟨"compare_total", "Context.compare_total", defArgs (inClass (top 213) 62), .stmts (defBody (inClass (top 213) 62)), defScope (inClass (top 213) 62), 3, [], .none, .none, .none, (.str "tenwhole.contexts" 2254), none, (.ref 1847), .none, 0⟩), ⟨[]⟩⟩
def o_214_1849 (P : Params) : Obj := ⟨(.type "tuple"), none, (.seq ⟨([] : List Value)⟩ 0), ⟨[]⟩⟩
def o_214_1850 (P : Params) : Obj := ⟨.none, none, (.fields ⟨([] : List Value)⟩), ⟨[]⟩⟩
def o_214_1851 (P : Params) : Obj := ⟨(.type "tuple"), none, (.seq ⟨(([(.str "self" 2820), (.str "a" 2821), (.str "b" 2822)] : List Value))⟩ 0), ⟨[]⟩⟩
def o_214_1852 (P : Params) : Obj := ⟨(.type "tuple"), none, (.seq ⟨([] : List Value)⟩ 0), ⟨[]⟩⟩
def o_214_1853 (P : Params) : Obj := ⟨.none, none, (.func ⟨"compare_total_mag", "Context.compare_total_mag", defArgs (inClass (top 213) 63), .stmts (defBody (inClass (top 213) 63)), defScope (inClass (top 213) 63), 0, [], .none, .none, .none, .none, none, .none, .none, 0⟩), ⟨[]⟩⟩
def o_214_1854 (P : Params) : Obj := ⟨(.type "code"), none, (.fields ⟨(([(.str "compare_total_mag" 2817), (.str "Context.compare_total_mag" 2818), (.str "/claim/cut.py" 2819), (.int (1381) 0), (.int (3) 0), (.int (0) 0), (.int (0) 0), (.int (3) 0), (.ref 1849), (.bool true), (.int (181) 0), (.ref 1850)] : List Value) ++ ([.none, (.ref 1851), (.ref 1852), (.ref 1853), (.int (2823) 0), (.int (1381) 0), (.str "/claim/cut.py" 2824)] : List Value))⟩), ⟨[]⟩⟩
def o_214_1855 (P : Params) : Obj := ⟨(.type "function"), none, (.func ⟨"compare_total_mag", "Context.compare_total_mag", defArgs (inClass (top 213) 63), .stmts (defBody (inClass (top 213) 63)), defScope (inClass (top 213) 63), 3, [], .none, .none, .none, (.str "tenwhole.contexts" 2254), none, (.ref 1854), .none, 0⟩), ⟨[]⟩⟩
def o_214_1856 (P : Params) : Obj := ⟨(.type "tuple"), none, (.seq ⟨([] : List Value)⟩ 0), ⟨[]⟩⟩
def o_214_1857 (P : Params) : Obj := ⟨.none, none, (.fields ⟨([] : List Value)⟩), ⟨[]⟩⟩
def o_214_1858 (P : Params) : Obj := ⟨(.type "tuple"), none, (.seq ⟨(([(.str "self" 2829), (.str "a" 2830), (.str "b" 2831)] : List Value))⟩ 0), ⟨[]⟩⟩
def o_214_1859 (P : Params) : Obj := ⟨(.type "tuple"), none, (.seq ⟨([] : List Value)⟩ 0), ⟨[]⟩⟩
def o_214_1860 (P : Params) : Obj := ⟨.none, none, (.func ⟨"equal", "Context.equal", defArgs (inClass (top 213) 64), .stmts (defBody (inClass (top 213) 64)), defScope (inClass (top 213) 64), 0, [], .none, .none, .none, .none, none, .none, .none, 0⟩), ⟨[]⟩⟩
def o_214_1861 (P : Params) : Obj := ⟨(.type "code"), none, (.fields ⟨(([(.str "equal" 2826), (.str "Context.equal" 2827), (.str "/claim/cut.py" 2828), (.int (1384) 0), (.int (3) 0), (.int (0) 0), (.int (0) 0), (.int (3) 0), (.ref 1856), (.bool true), (.int (181) 0), (.ref 1857)] : List Value) ++ ([.none, (.ref 1858), (.ref 1859), (.ref 1860), (.int (2832) 0), (.int (1384) 0), (.str "/claim/cut.py" 2833)] : List Value))⟩), ⟨[]⟩⟩
def o_214_1862 (P : Params) : Obj := ⟨(.type "function"), none, (.func ⟨"equal", "Context.equal", defArgs (inClass (top 213) 64), .stmts (defBody (inClass (top 213) 64)), defScope (inClass (top 213) 64), 3, [], .none, .none, .none, (.str "tenwhole.contexts" 2254), none, (.ref 1861), .none, 0⟩), ⟨[]⟩⟩
def o_214_1863 (P : Params) : Obj := ⟨(.type "tuple"), none, (.seq ⟨([] : List Value)⟩ 0), ⟨[]⟩⟩
def o_214_1864 (P : Params) : Obj := ⟨.none, none, (.fields ⟨([] : List Value)⟩), ⟨[]⟩⟩
def o_214_1865 (P : Params) : Obj := ⟨(.type "tuple"), none, (.seq ⟨(([(.str "self" 2838), (.str "a" 2839), (.str "b" 2840)] : List Value))⟩ 0), ⟨[]⟩⟩
def o_214_1866 (P : Params) : Obj := ⟨(.type "tuple"), none, (.seq ⟨([] : List Value)⟩ 0), ⟨[]⟩⟩
def o_214_1867 (P : Params) : Obj := ⟨.none, none, (.func ⟨"less", "Context.less", defArgs (inClass (top 213) 65), .stmts (defBody (inClass (top 213) 65)), defScope (inClass (top 213) 65), 0, [], .none, .none, .none, .none, none, .none, .none, 0⟩), ⟨[]⟩⟩
def o_214_1868 (P : Params) : Obj := ⟨(.type "code"), none, (.fields ⟨(([(.str "less" 2835), (.str "Context.less" 2836), (.str "/claim/cut.py" 2837), (.int (1387) 0), (.int (3) 0), (.int (0) 0), (.int (0) 0), (.int (3) 0), (.ref 1863), (.bool true), (.int (181) 0), (.ref 1864)] : List Value) ++ ([.none, (.ref 1865), (.ref 1866), (.ref 1867), (.int (2841) 0), (.int (1387) 0), (.str "/claim/cut.py" 2842)] : List Value))⟩), ⟨[]⟩⟩
def o_214_1869 (P : Params) : Obj := ⟨(.type "function"), none, (.func ⟨"less", "Context.less", defArgs (inClass (top 213) 65), .stmts (defBody (inClass (top 213) 65)), defScope (inClass (top 213) 65), 3, [], .none, .none, .none, (.str "tenwhole.contexts" 2254), none, (.ref 1868), .none, 0⟩), ⟨[]⟩⟩
def o_214_1870 (P : Params) : Obj := ⟨(.type "tuple"), none, (.seq ⟨([] : List Value)⟩ 0), ⟨[]⟩⟩
def o_214_1871 (P : Params) : Obj := ⟨.none, none, (.fields ⟨([] : List Value)⟩), ⟨[]⟩⟩
def o_214_1872 (P : Params) : Obj := ⟨(.type "tuple"), none, (.seq ⟨(([(.str "self" 2847), (.str "a" 2848), (.str "b" 2849)] : List Value))⟩ 0), ⟨[]⟩⟩
def o_214_1873 (P : Params) : Obj := ⟨(.type "tuple"), none, (.seq ⟨([] : List Value)⟩ 0), ⟨[]⟩⟩
def o_214_1874 (P : Params) : Obj := ⟨.none, none, (.func ⟨"at_most", "Context.at_most", defArgs (inClass (top 213) 66), .stmts (defBody (inClass (top 213) 66)), defScope (inClass (top 213) 66), 0, [], .none, .none, .none, .none, none, .none, .none, 0⟩), ⟨[]⟩⟩
def o_214_1875 (P : Params) : Obj := ⟨(.type "code"), none, (.fields ⟨(([(.str "at_most" 2844), (.str "Context.at_most" 2845), (.str "/claim/cut.py" 2846), (.int (1390) 0), (.int (3) 0), (.int (0) 0), (.int (0) 0), (.int (3) 0), (.ref 1870), (.bool true), (.int (181) 0), (.ref 1871)] : List Value) ++ ([.none, (.ref 1872), (.ref 1873), (.ref 1874), (.int (2850) 0), (.int (1390) 0), (.str "/claim/cut.py" 2851)] : List Value))⟩), ⟨[]⟩⟩
def o_214_1876 (P : Params) : Obj := ⟨(.type "function"), none, (.func ⟨"at_most", "Context.at_most", defArgs (inClass (top 213) 66), .stmts (defBody (inClass (top 213) 66)), defScope (inClass (top 213) 66), 3, [], .none, .none, .none, (.str "tenwhole.contexts" 2254), none, (.ref 1875), .none, 0⟩), ⟨[]⟩⟩
def o_214_1877 (P : Params) : Obj := ⟨(.type "tuple"), none, (.seq ⟨([] : List Value)⟩ 0), ⟨[]⟩⟩
def o_214_1878 (P : Params) : Obj := ⟨.none, none, (.fields ⟨([] : List Value)⟩), ⟨[]⟩⟩
def o_214_1879 (P : Params) : Obj := ⟨(.type "tuple"), none, (.seq ⟨(([(.str "self" 2856), (.str "a" 2857), (.str "b" 2858)] : List Value))⟩ 0), ⟨[]⟩⟩
def o_214_1880 (P : Params) : Obj := ⟨(.type "tuple"), none, (.seq ⟨([] : List Value)⟩ 0), ⟨[]⟩⟩
def o_214_1881 (P : Params) : Obj := ⟨.none, none, (.func ⟨"maximum", "Context.maximum", defArgs (inClass (top 213) 67), .stmts (defBody (inClass (top 213) 67)), defScope (inClass (top 213) 67), 0, [], .none, .none, .none, .none, none, .none, .none, 0⟩), ⟨[]⟩⟩
def o_214_1882 (P : Params) : Obj := ⟨(.type "code"), none, (.fields ⟨(([(.str "maximum" 2853), (.str "Context.maximum" 2854), (.str "/claim/cut.py" 2855), (.int (1393) 0), (.int (3) 0), (.int (0) 0), (.int (0) 0), (.int (3) 0), (.ref 1877), (.bool true), (.int (181) 0), (.ref 1878)] : List Value) ++ ([.none, (.ref 1879), (.ref 1880), (.ref 1881), (.int (2859) 0), (.int (1393) 0), (.str "/claim/cut.py" 2860)] : List Value))⟩), ⟨[]⟩⟩
def o_214_1883 (P : Params) : Obj := ⟨(.type "function"), none, (.func ⟨"maximum", "Context.maximum", defArgs (inClass (top 213) 67), .stmts (defBody (inClass (top 213) 67)), defScope (inClass (top 213) 67), 3, [], .none, .none, .none, (.str "tenwhole.contexts" 2254), none, (.ref 1882), .none, 0⟩), ⟨[]⟩⟩
def o_214_1884 (P : Params) : Obj := ⟨(.type "tuple"), none, (.seq ⟨([] : List Value)⟩ 0), ⟨[]⟩⟩
def o_214_1885 (P : Params) : Obj := ⟨.none, none, (.fields ⟨([] : List Value)⟩), ⟨[]⟩⟩
def o_214_1886 (P : Params) : Obj := ⟨(.type "tuple"), none, (.seq ⟨(([(.str "self" 2865), (.str "a" 2866), (.str "b" 2867)] : List Value))⟩ 0), ⟨[]⟩⟩
def o_214_1887 (P : Params) : Obj := ⟨(.type "tuple"), none, (.seq ⟨([] : List Value)⟩ 0), ⟨[]⟩⟩
def o_214_1888 (P : Params) : Obj := ⟨.none, none, (.func ⟨"minimum", "Context.minimum", defArgs (inClass (top 213) 68), .stmts (defBody (inClass (top 213) 68)), defScope (inClass (top 213) 68), 0, [], .none, .none, .none, .none, none, .none, .none, 0⟩), ⟨[]⟩⟩
def o_214_1889 (P : Params) : Obj := ⟨(.type "code"), none, (.fields ⟨(([(.str "minimum" 2862), (.str "Context.minimum" 2863), (.str "/claim/cut.py" 2864), (.int (1396) 0), (.int (3) 0), (.int (0) 0), (.int (0) 0), (.int (3) 0), (.ref 1884), (.bool true), (.int (181) 0), (.ref 1885)] : List Value) ++ ([.none, (.ref 1886), (.ref 1887), (.ref 1888), (.int (2868) 0), (.int (1396) 0), (.str "/claim/cut.py" 2869)] : List Value))⟩), ⟨[]⟩⟩
def o_214_1890 (P : Params) : Obj := ⟨(.type "function"), none, (.func ⟨"minimum", "Context.minimum", defArgs (inClass (top 213) 68), .stmts (defBody (inClass (top 213) 68)), defScope (inClass (top 213) 68), 3, [], .none, .none, .none, (.str "tenwhole.contexts" 2254), none, (.ref 1889), .none, 0⟩), ⟨[]⟩⟩
def o_214_1891 (P : Params) : Obj := ⟨(.type "tuple"), none, (.seq ⟨([] : List Value)⟩ 0), ⟨[]⟩⟩
def o_214_1892 (P : Params) : Obj := ⟨.none, none, (.fields ⟨([] : List Value)⟩), ⟨[]⟩⟩
def o_214_1893 (P : Params) : Obj := ⟨(.type "tuple"), none, (.seq ⟨(([(.str "self" 2874), (.str "a" 2875), (.str "b" 2876)] : List Value))⟩ 0), ⟨[]⟩⟩
def o_214_1894 (P : Params) : Obj := ⟨(.type "tuple"), none, (.seq ⟨([] : List Value)⟩ 0), ⟨[]⟩⟩
def o_214_1895 (P : Params) : Obj := ⟨.none, none, (.func ⟨"max_mag", "Context.max_mag", defArgs (inClass (top 213) 69), .stmts (defBody (inClass (top 213) 69)), defScope (inClass (top 213) 69), 0, [], .none, .none, .none, .none, none, .none, .none, 0⟩), ⟨[]⟩⟩
def o_214_1896 (P : Params) : Obj := ⟨(.type "code"), none, (.fields ⟨(([(.str "max_mag" 2871), (.str "Context.max_mag" 2872), (.str "/claim/cut.py" 2873), (.int (1399) 0), (.int (3) 0), (.int (0) 0), (.int (0) 0), (.int (3) 0), (.ref 1891), (.bool true), (.int (181) 0), (.ref 1892)] : List Value) ++ ([.none, (.ref 1893), (.ref 1894), (.ref 1895), (.int (2877) 0), (.int (1399) 0), (.str "/claim/cut.py" 2878)] : List Value))⟩), ⟨[]⟩⟩
def o_214_1897 (P : Params) : Obj := ⟨(.type "function"), none, (.func ⟨"max_mag", "Context.max_mag", defArgs (inClass (top 213) 69), .stmts (defBody (inClass (top 213) 69)), defScope (inClass (top 213) 69), 3, [], .none, .none, .none, (.str "tenwhole.contexts" 2254), none, (.ref 1896), .none, 0⟩), ⟨[]⟩⟩
def o_214_1898 (P : Params) : Obj := ⟨(.type "tuple"), none, (.seq ⟨([] : List Value)⟩ 0), ⟨[]⟩⟩
def o_214_1899 (P : Params) : Obj := ⟨.none, none, (.fields ⟨([] : List Value)⟩), ⟨[]⟩⟩
def o_214_1900 (P : Params) : Obj := ⟨(.type "tuple"), none, (.seq ⟨(([(.str "self" 2883), (.str "a" 2884), (.str "b" 2885)] : List Value))⟩ 0), ⟨[]⟩⟩
def o_214_1901 (P : Params) : Obj := ⟨(.type "tuple"), none, (.seq ⟨([] : List Value)⟩ 0), ⟨[]⟩⟩
def o_214_1902 (P : Params) : Obj := ⟨.none, none, (.func ⟨"min_mag", "Context.min_mag", defArgs (inClass (top 213) 70), .stmts (defBody (inClass (top 213) 70)), defScope (inClass (top 213) 70), 0, [], .none, .none, .none, .none, none, .none, .none, 0⟩), ⟨[]⟩⟩
def o_214_1903 (P : Params) : Obj := ⟨(.type "code"), none, (.fields ⟨(([(.str "min_mag" 2880), (.str "Context.min_mag" 2881), (.str "/claim/cut.py" 2882), (.int (1402) 0), (.int (3) 0), (.int (0) 0), (.int (0) 0), (.int (3) 0), (.ref 1898), (.bool true), (.int (181) 0), (.ref 1899)] : List Value) ++ ([.none, (.ref 1900), (.ref 1901), (.ref 1902), (.int (2886) 0), (.int (1402) 0), (.str "/claim/cut.py" 2887)] : List Value))⟩), ⟨[]⟩⟩
def o_214_1904 (P : Params) : Obj := ⟨(.type "function"), none, (.func ⟨"min_mag", "Context.min_mag", defArgs (inClass (top 213) 70), .stmts (defBody (inClass (top 213) 70)), defScope (inClass (top 213) 70), 3, [], .none, .none, .none, (.str "tenwhole.contexts" 2254), none, (.ref 1903), .none, 0⟩), ⟨[]⟩⟩
def o_214_1905 (P : Params) : Obj := ⟨(.type "tuple"), none, (.seq ⟨([] : List Value)⟩ 0), ⟨[]⟩⟩
def o_214_1906 (P : Params) : Obj := ⟨.none, none, (.fields ⟨([] : List Value)⟩), ⟨[]⟩⟩
def o_214_1907 (P : Params) : Obj := ⟨(.type "tuple"), none, (.seq ⟨(([(.str "self" 2892), (.str "a" 2893), (.str "b" 2894)] : List Value))⟩ 0), ⟨[]⟩⟩
def o_214_1908 (P : Params) : Obj := ⟨(.type "tuple"), none, (.seq ⟨([] : List Value)⟩ 0), ⟨[]⟩⟩
def o_214_1909 (P : Params) : Obj := ⟨.none, none, (.func ⟨"next_toward", "Context.next_toward", defArgs (inClass (top 213) 71), .stmts (defBody (inClass (top 213) 71)), defScope (inClass (top 213) 71), 0, [], .none, .none, .none, .none, none, .none, .none, 0⟩), ⟨[]⟩⟩
def o_214_1910 (P : Params) : Obj := ⟨(.type "code"), none, (.fields ⟨(([(.str "next_toward" 2889), (.str "Context.next_toward" 2890), (.str "/claim/cut.py" 2891), (.int (1405) 0), (.int (3) 0), (.int (0) 0), (.int (0) 0), (.int (3) 0), (.ref 1905), (.bool true), (.int (181) 0), (.ref 1906)] : List Value) ++ ([.none, (.ref 1907), (.ref 1908), (.ref 1909), (.int (2895) 0), (.int (1405) 0), (.str "/claim/cut.py" 2896)] : List Value))⟩), ⟨[]⟩⟩
def o_214_1911 (P : Params) : Obj := ⟨(.type "function"), none, (.func ⟨"next_toward", "Context.next_toward", defArgs (inClass (top 213) 71), .stmts (defBody (inClass (top 213) 71)), defScope (inClass (top 213) 71), 3, [], .none, .none, .none, (.str "tenwhole.contexts" 2254), none, (.ref 1910), .none, 0⟩), ⟨[]⟩⟩
def o_214_1912 (P : Params) : Obj := ⟨(.type "tuple"), none, (.seq ⟨([] : List Value)⟩ 0), ⟨[]⟩⟩
def o_214_1913 (P : Params) : Obj := ⟨.none, none, (.fields ⟨([] : List Value)⟩), ⟨[]⟩⟩
def o_214_1914 (P : Params) : Obj := ⟨(.type "tuple"), none, (.seq ⟨(([(.str "self" 2901), (.str "a" 2902), (.str "b" 2903)] : List Value))⟩ 0), ⟨[]⟩⟩
def o_214_1915 (P : Params) : Obj := ⟨(.type "tuple"), none, (.seq ⟨([] : List Value)⟩ 0), ⟨[]⟩⟩
def o_214_1916 (P : Params) : Obj := ⟨.none, none, (.func ⟨"scaleb", "Context.scaleb", defArgs (inClass (top 213) 72), .stmts (defBody (inClass (top 213) 72)), defScope (inClass (top 213) 72), 0, [], .none, .none, .none, .none, none, .none, .none, 0⟩), ⟨[]⟩⟩
def o_214_1917 (P : Params) : Obj := ⟨(.type "code"), none, (.fields ⟨(([(.str "scaleb" 2898), (.str "Context.scaleb" 2899), (.str "/claim/cut.py" 2900), (.int (1408) 0), (.int (3) 0), (.int (0) 0), (.int (0) 0), (.int (3) 0), (.ref 1912), (.bool true), (.int (181) 0), (.ref 1913)] : List Value) ++ ([.none, (.ref 1914), (.ref 1915), (.ref 1916), (.int (2904) 0), (.int (1408) 0), (.str "/claim/cut.py" 2905)] : List Value))⟩), ⟨[]⟩⟩
def o_214_1918 (P : Params) : Obj := ⟨(.type "function"), none, (.func ⟨"scaleb", "Context.scaleb", defArgs (inClass (top 213) 72), .stmts (defBody (inClass (top 213) 72)), defScope (inClass (top 213) 72), 3, [], .none, .none, .none, (.str "tenwhole.contexts" 2254), none, (.ref 1917), .none, 0⟩), ⟨[]⟩⟩
def o_214_1919 (P : Params) : Obj := ⟨(.type "tuple"), none, (.seq ⟨([] : List Value)⟩ 0), ⟨[]⟩⟩
def o_214_1920 (P : Params) : Obj := ⟨.none, none, (.fields ⟨([] : List Value)⟩), ⟨[]⟩⟩
def o_214_1921 (P : Params) : Obj := ⟨(.type "tuple"), none, (.seq ⟨(([(.str "self" 2910), (.str "a" 2911), (.str "b" 2912)] : List Value))⟩ 0), ⟨[]⟩⟩
def o_214_1922 (P : Params) : Obj := ⟨(.type "tuple"), none, (.seq ⟨([] : List Value)⟩ 0), ⟨[]⟩⟩
def o_214_1923 (P : Params) : Obj := ⟨.none, none, (.func ⟨"shift", "Context.shift", defArgs (inClass (top 213) 73), .stmts (defBody (inClass (top 213) 73)), defScope (inClass (top 213) 73), 0, [], .none, .none, .none, .none, none, .none, .none, 0⟩), ⟨[]⟩⟩
def o_214_1924 (P : Params) : Obj := ⟨(.type "code"), none, (.fields ⟨(([(.str "shift" 2907), (.str "Context.shift" 2908), (.str "/claim/cut.py" 2909), (.int (1411) 0), (.int (3) 0), (.int (0) 0), (.int (0) 0), (.int (3) 0), (.ref 1919), (.bool true), (.int (181) 0), (.ref 1920)] : List Value) ++ ([.none, (.ref 1921), (.ref 1922), (.ref 1923), (.int (2913) 0), (.int (1411) 0), (.str "/claim/cut.py" 2914)] : List Value))⟩), ⟨[]⟩⟩
def o_214_1925 (P : Params) : Obj := ⟨(.type "function"), none, (.func ⟨"shift", "Context.shift", defArgs (inClass (top 213) 73), .stmts (defBody (inClass (top 213) 73)), defScope (inClass (top 213) 73), 3, [], .none, .none, .none, (.str "tenwhole.contexts" 2254), none, (.ref 1924), .none, 0⟩), ⟨[]⟩⟩
def o_214_1926 (P : Params) : Obj := ⟨(.type "tuple"), none, (.seq ⟨([] : List Value)⟩ 0), ⟨[]⟩⟩
def o_214_1927 (P : Params) : Obj := ⟨.none, none, (.fields ⟨([] : List Value)⟩), ⟨[]⟩⟩
def o_214_1928 (P : Params) : Obj := ⟨(.type "tuple"), none, (.seq ⟨(([(.str "self" 2919), (.str "a" 2920), (.str "b" 2921)] : List Value))⟩ 0), ⟨[]⟩⟩
def o_214_1929 (P : Params) : Obj := ⟨(.type "tuple"), none, (.seq ⟨([] : List Value)⟩ 0), ⟨[]⟩⟩
def o_214_1930 (P : Params) : Obj := ⟨.none, none, (.func ⟨"rotate", "Context.rotate", defArgs (inClass (top 213) 74), .stmts (defBody (inClass (top 213) 74)), defScope (inClass (top 213) 74), 0, [], .none, .none, .none, .none, none, .none, .none, 0⟩), ⟨[]⟩⟩
def o_214_1931 (P : Params) : Obj := ⟨(.type "code"), none, (.fields ⟨(([(.str "rotate" 2916), (.str "Context.rotate" 2917), (.str "/claim/cut.py" 2918), (.int (1414) 0), (.int (3) 0), (.int (0) 0), (.int (0) 0), (.int (3) 0), (.ref 1926), (.bool true), (.int (181) 0), (.ref 1927)] : List Value) ++ ([.none, (.ref 1928), (.ref 1929), (.ref 1930), (.int (2922) 0), (.int (1414) 0), (.str "/claim/cut.py" 2923)] : List Value))⟩), ⟨[]⟩⟩
def o_214_1932 (P : Params) : Obj := ⟨(.type "function"), none, (.func ⟨"rotate", "Context.rotate", defArgs (inClass (top 213) 74), .stmts (defBody (inClass (top 213) 74)), defScope (inClass (top 213) 74), 3, [], .none, .none, .none, (.str "tenwhole.contexts" 2254), none, (.ref 1931), .none, 0⟩), ⟨[]⟩⟩
def o_214_1933 (P : Params) : Obj := ⟨(.type "tuple"), none, (.seq ⟨([] : List Value)⟩ 0), ⟨[]⟩⟩
def o_214_1934 (P : Params) : Obj := ⟨.none, none, (.fields ⟨([] : List Value)⟩), ⟨[]⟩⟩
def o_214_1935 (P : Params) : Obj := ⟨(.type "tuple"), none, (.seq ⟨(([(.str "self" 2928), (.str "a" 2929), (.str "b" 2930)] : List Value))⟩ 0), ⟨[]⟩⟩
def o_214_1936 (P : Params) : Obj := ⟨(.type "tuple"), none, (.seq ⟨([] : List Value)⟩ 0), ⟨[]⟩⟩
def o_214_1937 (P : Params) : Obj := ⟨.none, none, (.func ⟨"logical_and", "Context.logical_and", defArgs (inClass (top 213) 75), .stmts (defBody (inClass (top 213) 75)), defScope (inClass (top 213) 75), 0, [], .none, .none, .none, .none, none, .none, .none, 0⟩), ⟨[]⟩⟩
def o_214_1938 (P : Params) : Obj := ⟨(.type "code"), none, (.fields ⟨(([(.str "logical_and" 2925), (.str "Context.logical_and" 2926), (.str "/claim/cut.py" 2927), (.int (1417) 0), (.int (3) 0), (.int (0) 0), (.int (0) 0), (.int (3) 0), (.ref 1933), (.bool true), (.int (181) 0), (.ref 1934)] : List Value) ++ ([.none, (.ref 1935), (.ref 1936), (.ref 1937), (.int (2931) 0), (.int (1417) 0), (.str "/claim/cut.py" 2932)] : List Value))⟩), ⟨[]⟩⟩
def o_214_1939 (P : Params) : Obj := ⟨(.type "function"), none, (.func ⟨"logical_and", "Context.logical_and", defArgs (inClass (top 213) 75), .stmts (defBody (inClass (top 213) 75)), defScope (inClass (top 213) 75), 3, [], .none, .none, .none, (.str "tenwhole.contexts" 2254), none, (.ref 1938), .none, 0⟩), ⟨[]⟩⟩
def o_214_1940 (P : Params) : Obj := ⟨(.type "tuple"), none, (.seq ⟨([] : List Value)⟩ 0), ⟨[]⟩⟩
def o_214_1941 (P : Params) : Obj := ⟨.none, none, (.fields ⟨([] : List Value)⟩), ⟨[]⟩⟩
def o_214_1942 (P : Params) : Obj := ⟨(.type "tuple"), none, (.seq ⟨(([(.str "self" 2937), (.str "a" 2938), (.str "b" 2939)] : List Value))⟩ 0), ⟨[]⟩⟩
def o_214_1943 (P : Params) : Obj := ⟨(.type "tuple"), none, (.seq ⟨([] : List Value)⟩ 0), ⟨[]⟩⟩
def o_214_1944 (P : Params) : Obj := ⟨.none, none, (.func ⟨"logical_or", "Context.logical_or", defArgs (inClass (top 213) 76), .stmts (defBody (inClass (top 213) 76)), defScope (inClass (top 213) 76), 0, [], .none, .none, .none, .none, none, .none, .none, 0⟩), ⟨[]⟩⟩
def o_214_1945 (P : Params) : Obj := ⟨(.type "code"), none, (.fields ⟨(([(.str "logical_or" 2934), (.str "Context.logical_or" 2935), (.str "/claim/cut.py" 2936), (.int (1420) 0), (.int (3) 0), (.int (0) 0), (.int (0) 0), (.int (3) 0), (.ref 1940), (.bool true), (.int (181) 0), (.ref 1941)] : List Value) ++ ([.none, (.ref 1942), (.ref 1943), (.ref 1944), (.int (2940) 0), (.int (1420) 0), (.str "/claim/cut.py" 2941)] : List Value))⟩), ⟨[]⟩⟩
def o_214_1946 (P : Params) : Obj := ⟨(.type "function"), none, (.func ⟨"logical_or", "Context.logical_or", defArgs (inClass (top 213) 76), .stmts (defBody (inClass (top 213) 76)), defScope (inClass (top 213) 76), 3, [], .none, .none, .none, (.str "tenwhole.contexts" 2254), none, (.ref 1945), .none, 0⟩), ⟨[]⟩⟩
def o_214_1947 (P : Params) : Obj := ⟨(.type "tuple"), none, (.seq ⟨([] : List Value)⟩ 0), ⟨[]⟩⟩
def o_214_1948 (P : Params) : Obj := ⟨.none, none, (.fields ⟨([] : List Value)⟩), ⟨[]⟩⟩
def o_214_1949 (P : Params) : Obj := ⟨(.type "tuple"), none, (.seq ⟨(([(.str "self" 2946), (.str "a" 2947), (.str "b" 2948)] : List Value))⟩ 0), ⟨[]⟩⟩
def o_214_1950 (P : Params) : Obj := ⟨(.type "tuple"), none, (.seq ⟨([] : List Value)⟩ 0), ⟨[]⟩⟩
def o_214_1951 (P : Params) : Obj := ⟨.none, none, (.func ⟨"logical_xor", "Context.logical_xor", defArgs (inClass (top 213) 77), .stmts (defBody (inClass (top 213) 77)), defScope (inClass (top 213) 77), 0, [], .none, .none, .none, .none, none, .none, .none, 0⟩), ⟨[]⟩⟩
def o_214_1952 (P : Params) : Obj := ⟨(.type "code"), none, (.fields ⟨(([(.str "logical_xor" 2943), (.str "Context.logical_xor" 2944), (.str "/claim/cut.py" 2945), (.int (1423) 0), (.int (3) 0), (.int (0) 0), (.int (0) 0), (.int (3) 0), (.ref 1947), (.bool true), (.int (181) 0), (.ref 1948)] : List Value) ++ ([.none, (.ref 1949), (.ref 1950), (.ref 1951), (.int (2949) 0), (.int (1423) 0), (.str "/claim/cut.py" 2950)] : List Value))⟩), ⟨[]⟩⟩
def o_214_1953 (P : Params) : Obj := ⟨(.type "function"), none, (.func ⟨"logical_xor", "Context.logical_xor", defArgs (inClass (top 213) 77), .stmts (defBody (inClass (top 213) 77)), defScope (inClass (top 213) 77), 3, [], .none, .none, .none, (.str "tenwhole.contexts" 2254), none, (.ref 1952), .none, 0⟩), ⟨[]⟩⟩
def o_214_1954 (P : Params) : Obj := ⟨(.type "tuple"), none, (.seq ⟨(([(.str "capitals" 2952), (.str "clamp" 2953), (.str "emax" 2954), (.str "emin" 2955), (.str "prec" 2956), (.str "raised" 2957), (.str "rounding" 2958), (.str "rules" 2959), (.str "trapped" 2960)] : List Value))⟩ 0), ⟨[]⟩⟩
def o_214_1955 (P : Params) : Obj := ⟨(.type "dict"), none, (.dict ⟨(([⟨PyData.keyHash P "__module__", (.str "__module__" 2278), (.str "tenwhole.contexts" 2254)⟩, ⟨PyData.keyHash P "__firstlineno__", (.str "__firstlineno__" 2282), (.int (1162) 2281)⟩, ⟨PyData.keyHash P "__init__", (.str "__init__" 2313), (.ref 1419)⟩, ⟨PyData.keyHash P "etiny", (.str "etiny" 2320), (.ref 1426)⟩, ⟨PyData.keyHash P "etop", (.str "etop" 2327), (.ref 1433)⟩, ⟨PyData.keyHash P "flags", (.str "flags" 2334), (.ref 1440)⟩, ⟨PyData.keyHash P "traps", (.str "traps" 2341), (.ref 1447)⟩, ⟨PyData.keyHash P "set_flags", (.str "set_flags" 2349), (.ref 1454)⟩, ⟨PyData.keyHash P "set_traps", (.str "set_traps" 2357), (.ref 1461)⟩, ⟨PyData.keyHash P "clear_flags", (.str "clear_flags" 2364), (.ref 1468)⟩, ⟨PyData.keyHash P "clear_traps", (.str "clear_traps" 2371), (.ref 1475)⟩, ⟨PyData.keyHash P "copy", (.str "copy" 2379), (.ref 1482)⟩] : List DictEntry) ++ ([⟨PyData.keyHash P "told", (.str "told" 2385), (.ref 1487)⟩, ⟨PyData.keyHash P "settled", (.str "settled" 2391), (.ref 1492)⟩, ⟨PyData.keyHash P "noted", (.str "noted" 2397), (.ref 1497)⟩, ⟨PyData.keyHash P "create_decimal", (.str "create_decimal" 2405), (.ref 1504)⟩, ⟨PyData.keyHash P "round_to", (.str "round_to" 2414), (.ref 1511)⟩, ⟨PyData.keyHash P "radix", (.str "radix" 2421), (.ref 1518)⟩, ⟨PyData.keyHash P "to_sci_string", (.str "to_sci_string" 2429), (.ref 1525)⟩, ⟨PyData.keyHash P "to_eng_string", (.str "to_eng_string" 2437), (.ref 1532)⟩, ⟨PyData.keyHash P "formatted", (.str "formatted" 2446), (.ref 1539)⟩, ⟨PyData.keyHash P "fma", (.str "fma" 2456), (.ref 1546)⟩, ⟨PyData.keyHash P "power", (.str "power" 2466), (.ref 1554)⟩, ⟨PyData.keyHash P "copy_sign", (.str "copy_sign" 2475), (.ref 1561)⟩] : List DictEntry) ++ ([⟨PyData.keyHash P "is_finite", (.str "is_finite" 2483), (.ref 1568)⟩, ⟨PyData.keyHash P "is_infinite", (.str "is_infinite" 2491), (.ref 1575)⟩, ⟨PyData.keyHash P "is_nan", (.str "is_nan" 2499), (.ref 1582)⟩, ⟨PyData.keyHash P "is_qnan", (.str "is_qnan" 2507), (.ref 1589)⟩, ⟨PyData.keyHash P "is_snan", (.str "is_snan" 2515), (.ref 1596)⟩, ⟨PyData.keyHash P "is_signed", (.str "is_signed" 2523), (.ref 1603)⟩, ⟨PyData.keyHash P "is_zero", (.str "is_zero" 2531), (.ref 1610)⟩, ⟨PyData.keyHash P "is_canonical", (.str "is_canonical" 2539), (.ref 1617)⟩, ⟨PyData.keyHash P "copy_abs", (.str "copy_abs" 2547), (.ref 1624)⟩, ⟨PyData.keyHash P "copy_negate", (.str "copy_negate" 2555), (.ref 1631)⟩, ⟨PyData.keyHash P "canonical", (.str "canonical" 2563), (.ref 1638)⟩, ⟨PyData.keyHash P "plus", (.str "plus" 2571), (.ref 1645)⟩] : List DictEntry) ++ ([⟨PyData.keyHash P "absolute", (.str "absolute" 2579), (.ref 1652)⟩, ⟨PyData.keyHash P "minus", (.str "minus" 2587), (.ref 1659)⟩, ⟨PyData.keyHash P "to_integral_exact", (.str "to_integral_exact" 2595), (.ref 1666)⟩, ⟨PyData.keyHash P "to_integral_value", (.str "to_integral_value" 2603), (.ref 1673)⟩, ⟨PyData.keyHash P "normalize", (.str "normalize" 2611), (.ref 1680)⟩, ⟨PyData.keyHash P "number_class", (.str "number_class" 2619), (.ref 1687)⟩, ⟨PyData.keyHash P "is_normal", (.str "is_normal" 2627), (.ref 1694)⟩, ⟨PyData.keyHash P "is_subnormal", (.str "is_subnormal" 2635), (.ref 1701)⟩, ⟨PyData.keyHash P "next_plus", (.str "next_plus" 2643), (.ref 1708)⟩, ⟨PyData.keyHash P "next_minus", (.str "next_minus" 2651), (.ref 1715)⟩, ⟨PyData.keyHash P "logb", (.str "logb" 2659), (.ref 1722)⟩, ⟨PyData.keyHash P "logical_invert", (.str "logical_invert" 2667), (.ref 1729)⟩] : List DictEntry) ++ ([⟨PyData.keyHash P "sqrt", (.str "sqrt" 2675), (.ref 1736)⟩, ⟨PyData.keyHash P "exp", (.str "exp" 2683), (.ref 1743)⟩, ⟨PyData.keyHash P "ln", (.str "ln" 2691), (.ref 1750)⟩, ⟨PyData.keyHash P "log10", (.str "log10" 2699), (.ref 1757)⟩, ⟨PyData.keyHash P "add", (.str "add" 2708), (.ref 1764)⟩, ⟨PyData.keyHash P "subtract", (.str "subtract" 2717), (.ref 1771)⟩, ⟨PyData.keyHash P "multiply", (.str "multiply" 2726), (.ref 1778)⟩, ⟨PyData.keyHash P "divide", (.str "divide" 2735), (.ref 1785)⟩, ⟨PyData.keyHash P "divide_int", (.str "divide_int" 2744), (.ref 1792)⟩, ⟨PyData.keyHash P "remainder", (.str "remainder" 2753), (.ref 1799)⟩, ⟨PyData.keyHash P "divide_both", (.str "divide_both" 2762), (.ref 1806)⟩, ⟨PyData.keyHash P "remainder_near", (.str "remainder_near" 2771), (.ref 1813)⟩] : List DictEntry) ++ ([⟨PyData.keyHash P "quantize", (.str "quantize" 2780), (.ref 1820)⟩, ⟨PyData.keyHash P "same_quantum", (.str "same_quantum" 2789), (.ref 1827)⟩, ⟨PyData.keyHash P "compare", (.str "compare" 2798), (.ref 1834)⟩, ⟨PyData.keyHash P "compare_signal", (.str "compare_signal" 2807), (.ref 1841)⟩, ⟨PyData.keyHash P "compare_total", (.str "compare_total" 2816), (.ref 1848)⟩, ⟨PyData.keyHash P "compare_total_mag", (.str "compare_total_mag" 2825), (.ref 1855)⟩, ⟨PyData.keyHash P "equal", (.str "equal" 2834), (.ref 1862)⟩, ⟨PyData.keyHash P "less", (.str "less" 2843), (.ref 1869)⟩, ⟨PyData.keyHash P "at_most", (.str "at_most" 2852), (.ref 1876)⟩, ⟨PyData.keyHash P "maximum", (.str "maximum" 2861), (.ref 1883)⟩, ⟨PyData.keyHash P "minimum", (.str "minimum" 2870), (.ref 1890)⟩, ⟨PyData.keyHash P "max_mag", (.str "max_mag" 2879), (.ref 1897)⟩] : List DictEntry) ++ ([⟨PyData.keyHash P "min_mag", (.str "min_mag" 2888), (.ref 1904)⟩, ⟨PyData.keyHash P "next_toward", (.str "next_toward" 2897), (.ref 1911)⟩, ⟨PyData.keyHash P "scaleb", (.str "scaleb" 2906), (.ref 1918)⟩, ⟨PyData.keyHash P "shift", (.str "shift" 2915), (.ref 1925)⟩, ⟨PyData.keyHash P "rotate", (.str "rotate" 2924), (.ref 1932)⟩, ⟨PyData.keyHash P "logical_and", (.str "logical_and" 2933), (.ref 1939)⟩, ⟨PyData.keyHash P "logical_or", (.str "logical_or" 2942), (.ref 1946)⟩, ⟨PyData.keyHash P "logical_xor", (.str "logical_xor" 2951), (.ref 1953)⟩, ⟨PyData.keyHash P "__static_attributes__", (.str "__static_attributes__" 2961), (.ref 1954)⟩, ⟨PyData.keyHash P "__dict__", (.str "__dict__" 2963), (.ref 1957)⟩, ⟨PyData.keyHash P "__weakref__", (.str "__weakref__" 2965), (.ref 1958)⟩, ⟨PyData.keyHash P "__doc__", (.str "__doc__" 2966), .none⟩] : List DictEntry))⟩ 4), ⟨[]⟩⟩
def o_214_1956 (P : Params) : Obj := ⟨(.type "type"), none, (.cls ⟨"Context", [(.type "object")], [(.ref 1956), (.type "object")], 1955, "Context", true, [], ([] : List Value), false, none, false⟩), ⟨[none, none, (some (.str "Context" 2271)), (some (.str "Context" 2279)), (some (.builtin "object.__new__")), (some (.bool true))]⟩⟩
def o_214_1957 (P : Params) : Obj := ⟨(.type "getset_descriptor"), none, (.fields ⟨(([(.str "__dict__" 2962), (.ref 1956), (.builtin "function.__dict__"), (.builtin "function.__dict__#set")] : List Value))⟩), ⟨[]⟩⟩
def o_214_1958 (P : Params) : Obj := ⟨(.type "getset_descriptor"), none, (.fields ⟨(([(.str "__weakref__" 2964), (.ref 1956), (.builtin "ExceptionGroup.__weakref__"), .none] : List Value))⟩), ⟨[]⟩⟩
def o_214_1959 (P : Params) : Obj := ⟨(.type "super"), none, (.fields ⟨(([(.ref 1956), (.ref 1956), (.ref 1956)] : List Value))⟩), ⟨[]⟩⟩
def o_214_1960 (P : Params) : Obj := ⟨(.type "builtin_function_or_method"), none, (.fields ⟨(([(.builtin "object.__init_subclass__"), (.ref 1956)] : List Value))⟩), ⟨[]⟩⟩
def l_214 (P : Params) : List (Nat × Obj) := ([(3, o_214_3 P), (12, o_214_12 P), (1404, o_214_1404 P), (1405, o_214_1405 P), (1406, o_214_1406 P), (1407, o_214_1407 P), (1408, o_214_1408 P), (1409, o_214_1409 P), (1410, o_214_1410 P), (1411, o_214_1411 P), (1412, o_214_1412 P), (1413, o_214_1413 P), (1414, o_214_1414 P), (1415, o_214_1415 P), (1416, o_214_1416 P), (1417, o_214_1417 P), (1418, o_214_1418 P), (1419, o_214_1419 P), (1420, o_214_1420 P), (1421, o_214_1421 P), (1422, o_214_1422 P), (1423, o_214_1423 P), (1424, o_214_1424 P), (1425, o_214_1425 P), (1426, o_214_1426 P)] : List (Nat × Obj)) ++ ([(1427, o_214_1427 P), (1428, o_214_1428 P), (1429, o_214_1429 P), (1430, o_214_1430 P), (1431, o_214_1431 P), (1432, o_214_1432 P), (1433, o_214_1433 P), (1434, o_214_1434 P), (1435, o_214_1435 P), (1436, o_214_1436 P), (1437, o_214_1437 P), (1438, o_214_1438 P), (1439, o_214_1439 P), (1440, o_214_1440 P), (1441, o_214_1441 P), (1442, o_214_1442 P), (1443, o_214_1443 P), (1444, o_214_1444 P), (1445, o_214_1445 P), (1446, o_214_1446 P), (1447, o_214_1447 P), (1448, o_214_1448 P), (1449, o_214_1449 P), (1450, o_214_1450 P), (1451, o_214_1451 P)] : List (Nat × Obj)) ++ ([(1452, o_214_1452 P), (1453, o_214_1453 P), (1454, o_214_1454 P), (1455, o_214_1455 P), (1456, o_214_1456 P), (1457, o_214_1457 P), (1458, o_214_1458 P), (1459, o_214_1459 P), (1460, o_214_1460 P), (1461, o_214_1461 P), (1462, o_214_1462 P), (1463, o_214_1463 P), (1464, o_214_1464 P), (1465, o_214_1465 P), (1466, o_214_1466 P), (1467, o_214_1467 P), (1468, o_214_1468 P), (1469, o_214_1469 P), (1470, o_214_1470 P), (1471, o_214_1471 P), (1472, o_214_1472 P), (1473, o_214_1473 P), (1474, o_214_1474 P), (1475, o_214_1475 P), (1476, o_214_1476 P)] : List (Nat × Obj)) ++ ([(1477, o_214_1477 P), (1478, o_214_1478 P), (1479, o_214_1479 P), (1480, o_214_1480 P), (1481, o_214_1481 P), (1482, o_214_1482 P), (1483, o_214_1483 P), (1484, o_214_1484 P), (1485, o_214_1485 P), (1486, o_214_1486 P), (1487, o_214_1487 P), (1488, o_214_1488 P), (1489, o_214_1489 P), (1490, o_214_1490 P), (1491, o_214_1491 P), (1492, o_214_1492 P), (1493, o_214_1493 P), (1494, o_214_1494 P), (1495, o_214_1495 P), (1496, o_214_1496 P), (1497, o_214_1497 P), (1498, o_214_1498 P), (1499, o_214_1499 P), (1500, o_214_1500 P), (1501, o_214_1501 P)] : List (Nat × Obj)) ++ ([(1502, o_214_1502 P), (1503, o_214_1503 P), (1504, o_214_1504 P), (1505, o_214_1505 P), (1506, o_214_1506 P), (1507, o_214_1507 P), (1508, o_214_1508 P), (1509, o_214_1509 P), (1510, o_214_1510 P), (1511, o_214_1511 P), (1512, o_214_1512 P), (1513, o_214_1513 P), (1514, o_214_1514 P), (1515, o_214_1515 P), (1516, o_214_1516 P), (1517, o_214_1517 P), (1518, o_214_1518 P), (1519, o_214_1519 P), (1520, o_214_1520 P), (1521, o_214_1521 P), (1522, o_214_1522 P), (1523, o_214_1523 P), (1524, o_214_1524 P), (1525, o_214_1525 P), (1526, o_214_1526 P)] : List (Nat × Obj)) ++ ([(1527, o_214_1527 P), (1528, o_214_1528 P), (1529, o_214_1529 P), (1530, o_214_1530 P), (1531, o_214_1531 P), (1532, o_214_1532 P), (1533, o_214_1533 P), (1534, o_214_1534 P), (1535, o_214_1535 P), (1536, o_214_1536 P), (1537, o_214_1537 P), (1538, o_214_1538 P), (1539, o_214_1539 P), (1540, o_214_1540 P), (1541, o_214_1541 P), (1542, o_214_1542 P), (1543, o_214_1543 P), (1544, o_214_1544 P), (1545, o_214_1545 P), (1546, o_214_1546 P), (1547, o_214_1547 P), (1548, o_214_1548 P), (1549, o_214_1549 P), (1550, o_214_1550 P), (1551, o_214_1551 P)] : List (Nat × Obj)) ++ ([(1552, o_214_1552 P), (1553, o_214_1553 P), (1554, o_214_1554 P), (1555, o_214_1555 P), (1556, o_214_1556 P), (1557, o_214_1557 P), (1558, o_214_1558 P), (1559, o_214_1559 P), (1560, o_214_1560 P), (1561, o_214_1561 P), (1562, o_214_1562 P), (1563, o_214_1563 P), (1564, o_214_1564 P), (1565, o_214_1565 P), (1566, o_214_1566 P), (1567, o_214_1567 P), (1568, o_214_1568 P), (1569, o_214_1569 P), (1570, o_214_1570 P), (1571, o_214_1571 P), (1572, o_214_1572 P), (1573, o_214_1573 P), (1574, o_214_1574 P), (1575, o_214_1575 P), (1576, o_214_1576 P)] : List (Nat × Obj)) ++ ([(1577, o_214_1577 P), (1578, o_214_1578 P), (1579, o_214_1579 P), (1580, o_214_1580 P), (1581, o_214_1581 P), (1582, o_214_1582 P), (1583, o_214_1583 P), (1584, o_214_1584 P), (1585, o_214_1585 P), (1586, o_214_1586 P), (1587, o_214_1587 P), (1588, o_214_1588 P), (1589, o_214_1589 P), (1590, o_214_1590 P), (1591, o_214_1591 P), (1592, o_214_1592 P), (1593, o_214_1593 P), (1594, o_214_1594 P), (1595, o_214_1595 P), (1596, o_214_1596 P), (1597, o_214_1597 P), (1598, o_214_1598 P), (1599, o_214_1599 P), (1600, o_214_1600 P), (1601, o_214_1601 P)] : List (Nat × Obj)) ++ ([(1602, o_214_1602 P), (1603, o_214_1603 P), (1604, o_214_1604 P), (1605, o_214_1605 P), (1606, o_214_1606 P), (1607, o_214_1607 P), (1608, o_214_1608 P), (1609, o_214_1609 P), (1610, o_214_1610 P), (1611, o_214_1611 P), (1612, o_214_1612 P), (1613, o_214_1613 P), (1614, o_214_1614 P), (1615, o_214_1615 P), (1616, o_214_1616 P), (1617, o_214_1617 P), (1618, o_214_1618 P), (1619, o_214_1619 P), (1620, o_214_1620 P), (1621, o_214_1621 P), (1622, o_214_1622 P), (1623, o_214_1623 P), (1624, o_214_1624 P), (1625, o_214_1625 P), (1626, o_214_1626 P)] : List (Nat × Obj)) ++ ([(1627, o_214_1627 P), (1628, o_214_1628 P), (1629, o_214_1629 P), (1630, o_214_1630 P), (1631, o_214_1631 P), (1632, o_214_1632 P), (1633, o_214_1633 P), (1634, o_214_1634 P), (1635, o_214_1635 P), (1636, o_214_1636 P), (1637, o_214_1637 P), (1638, o_214_1638 P), (1639, o_214_1639 P), (1640, o_214_1640 P), (1641, o_214_1641 P), (1642, o_214_1642 P), (1643, o_214_1643 P), (1644, o_214_1644 P), (1645, o_214_1645 P), (1646, o_214_1646 P), (1647, o_214_1647 P), (1648, o_214_1648 P), (1649, o_214_1649 P), (1650, o_214_1650 P), (1651, o_214_1651 P)] : List (Nat × Obj)) ++ ([(1652, o_214_1652 P), (1653, o_214_1653 P), (1654, o_214_1654 P), (1655, o_214_1655 P), (1656, o_214_1656 P), (1657, o_214_1657 P), (1658, o_214_1658 P), (1659, o_214_1659 P), (1660, o_214_1660 P), (1661, o_214_1661 P), (1662, o_214_1662 P), (1663, o_214_1663 P), (1664, o_214_1664 P), (1665, o_214_1665 P), (1666, o_214_1666 P), (1667, o_214_1667 P), (1668, o_214_1668 P), (1669, o_214_1669 P), (1670, o_214_1670 P), (1671, o_214_1671 P), (1672, o_214_1672 P), (1673, o_214_1673 P), (1674, o_214_1674 P), (1675, o_214_1675 P), (1676, o_214_1676 P)] : List (Nat × Obj)) ++ ([(1677, o_214_1677 P), (1678, o_214_1678 P), (1679, o_214_1679 P), (1680, o_214_1680 P), (1681, o_214_1681 P), (1682, o_214_1682 P), (1683, o_214_1683 P), (1684, o_214_1684 P), (1685, o_214_1685 P), (1686, o_214_1686 P), (1687, o_214_1687 P), (1688, o_214_1688 P), (1689, o_214_1689 P), (1690, o_214_1690 P), (1691, o_214_1691 P), (1692, o_214_1692 P), (1693, o_214_1693 P), (1694, o_214_1694 P), (1695, o_214_1695 P), (1696, o_214_1696 P), (1697, o_214_1697 P), (1698, o_214_1698 P), (1699, o_214_1699 P), (1700, o_214_1700 P), (1701, o_214_1701 P)] : List (Nat × Obj)) ++ ([(1702, o_214_1702 P), (1703, o_214_1703 P), (1704, o_214_1704 P), (1705, o_214_1705 P), (1706, o_214_1706 P), (1707, o_214_1707 P), (1708, o_214_1708 P), (1709, o_214_1709 P), (1710, o_214_1710 P), (1711, o_214_1711 P), (1712, o_214_1712 P), (1713, o_214_1713 P), (1714, o_214_1714 P), (1715, o_214_1715 P), (1716, o_214_1716 P), (1717, o_214_1717 P), (1718, o_214_1718 P), (1719, o_214_1719 P), (1720, o_214_1720 P), (1721, o_214_1721 P), (1722, o_214_1722 P), (1723, o_214_1723 P), (1724, o_214_1724 P), (1725, o_214_1725 P), (1726, o_214_1726 P)] : List (Nat × Obj)) ++ ([(1727, o_214_1727 P), (1728, o_214_1728 P), (1729, o_214_1729 P), (1730, o_214_1730 P), (1731, o_214_1731 P), (1732, o_214_1732 P), (1733, o_214_1733 P), (1734, o_214_1734 P), (1735, o_214_1735 P), (1736, o_214_1736 P), (1737, o_214_1737 P), (1738, o_214_1738 P), (1739, o_214_1739 P), (1740, o_214_1740 P), (1741, o_214_1741 P), (1742, o_214_1742 P), (1743, o_214_1743 P), (1744, o_214_1744 P), (1745, o_214_1745 P), (1746, o_214_1746 P), (1747, o_214_1747 P), (1748, o_214_1748 P), (1749, o_214_1749 P), (1750, o_214_1750 P), (1751, o_214_1751 P)] : List (Nat × Obj)) ++ ([(1752, o_214_1752 P), (1753, o_214_1753 P), (1754, o_214_1754 P), (1755, o_214_1755 P), (1756, o_214_1756 P), (1757, o_214_1757 P), (1758, o_214_1758 P), (1759, o_214_1759 P), (1760, o_214_1760 P), (1761, o_214_1761 P), (1762, o_214_1762 P), (1763, o_214_1763 P), (1764, o_214_1764 P), (1765, o_214_1765 P), (1766, o_214_1766 P), (1767, o_214_1767 P), (1768, o_214_1768 P), (1769, o_214_1769 P), (1770, o_214_1770 P), (1771, o_214_1771 P), (1772, o_214_1772 P), (1773, o_214_1773 P), (1774, o_214_1774 P), (1775, o_214_1775 P), (1776, o_214_1776 P)] : List (Nat × Obj)) ++ ([(1777, o_214_1777 P), (1778, o_214_1778 P), (1779, o_214_1779 P), (1780, o_214_1780 P), (1781, o_214_1781 P), (1782, o_214_1782 P), (1783, o_214_1783 P), (1784, o_214_1784 P), (1785, o_214_1785 P), (1786, o_214_1786 P), (1787, o_214_1787 P), (1788, o_214_1788 P), (1789, o_214_1789 P), (1790, o_214_1790 P), (1791, o_214_1791 P), (1792, o_214_1792 P), (1793, o_214_1793 P), (1794, o_214_1794 P), (1795, o_214_1795 P), (1796, o_214_1796 P), (1797, o_214_1797 P), (1798, o_214_1798 P), (1799, o_214_1799 P), (1800, o_214_1800 P), (1801, o_214_1801 P)] : List (Nat × Obj)) ++ ([(1802, o_214_1802 P), (1803, o_214_1803 P), (1804, o_214_1804 P), (1805, o_214_1805 P), (1806, o_214_1806 P), (1807, o_214_1807 P), (1808, o_214_1808 P), (1809, o_214_1809 P), (1810, o_214_1810 P), (1811, o_214_1811 P), (1812, o_214_1812 P), (1813, o_214_1813 P), (1814, o_214_1814 P), (1815, o_214_1815 P), (1816, o_214_1816 P), (1817, o_214_1817 P), (1818, o_214_1818 P), (1819, o_214_1819 P), (1820, o_214_1820 P), (1821, o_214_1821 P), (1822, o_214_1822 P), (1823, o_214_1823 P), (1824, o_214_1824 P), (1825, o_214_1825 P), (1826, o_214_1826 P)] : List (Nat × Obj)) ++ ([(1827, o_214_1827 P), (1828, o_214_1828 P), (1829, o_214_1829 P), (1830, o_214_1830 P), (1831, o_214_1831 P), (1832, o_214_1832 P), (1833, o_214_1833 P), (1834, o_214_1834 P), (1835, o_214_1835 P), (1836, o_214_1836 P), (1837, o_214_1837 P), (1838, o_214_1838 P), (1839, o_214_1839 P), (1840, o_214_1840 P), (1841, o_214_1841 P), (1842, o_214_1842 P), (1843, o_214_1843 P), (1844, o_214_1844 P), (1845, o_214_1845 P), (1846, o_214_1846 P), (1847, o_214_1847 P), (1848, o_214_1848 P), (1849, o_214_1849 P), (1850, o_214_1850 P), (1851, o_214_1851 P)] : List (Nat × Obj)) ++ ([(1852, o_214_1852 P), (1853, o_214_1853 P), (1854, o_214_1854 P), (1855, o_214_1855 P), (1856, o_214_1856 P), (1857, o_214_1857 P), (1858, o_214_1858 P), (1859, o_214_1859 P), (1860, o_214_1860 P), (1861, o_214_1861 P), (1862, o_214_1862 P), (1863, o_214_1863 P), (1864, o_214_1864 P), (1865, o_214_1865 P), (1866, o_214_1866 P), (1867, o_214_1867 P), (1868, o_214_1868 P), (1869, o_214_1869 P), (1870, o_214_1870 P), (1871, o_214_1871 P), (1872, o_214_1872 P), (1873, o_214_1873 P), (1874, o_214_1874 P), (1875, o_214_1875 P), (1876, o_214_1876 P)] : List (Nat × Obj)) ++ ([(1877, o_214_1877 P), (1878, o_214_1878 P), (1879, o_214_1879 P), (1880, o_214_1880 P), (1881, o_214_1881 P), (1882, o_214_1882 P), (1883, o_214_1883 P), (1884, o_214_1884 P), (1885, o_214_1885 P), (1886, o_214_1886 P), (1887, o_214_1887 P), (1888, o_214_1888 P), (1889, o_214_1889 P), (1890, o_214_1890 P), (1891, o_214_1891 P), (1892, o_214_1892 P), (1893, o_214_1893 P), (1894, o_214_1894 P), (1895, o_214_1895 P), (1896, o_214_1896 P), (1897, o_214_1897 P), (1898, o_214_1898 P), (1899, o_214_1899 P), (1900, o_214_1900 P), (1901, o_214_1901 P)] : List (Nat × Obj)) ++ ([(1902, o_214_1902 P), (1903, o_214_1903 P), (1904, o_214_1904 P), (1905, o_214_1905 P), (1906, o_214_1906 P), (1907, o_214_1907 P), (1908, o_214_1908 P), (1909, o_214_1909 P), (1910, o_214_1910 P), (1911, o_214_1911 P), (1912, o_214_1912 P), (1913, o_214_1913 P), (1914, o_214_1914 P), (1915, o_214_1915 P), (1916, o_214_1916 P), (1917, o_214_1917 P), (1918, o_214_1918 P), (1919, o_214_1919 P), (1920, o_214_1920 P), (1921, o_214_1921 P), (1922, o_214_1922 P), (1923, o_214_1923 P), (1924, o_214_1924 P), (1925, o_214_1925 P), (1926, o_214_1926 P)] : List (Nat × Obj)) ++ ([(1927, o_214_1927 P), (1928, o_214_1928 P), (1929, o_214_1929 P), (1930, o_214_1930 P), (1931, o_214_1931 P), (1932, o_214_1932 P), (1933, o_214_1933 P), (1934, o_214_1934 P), (1935, o_214_1935 P), (1936, o_214_1936 P), (1937, o_214_1937 P), (1938, o_214_1938 P), (1939, o_214_1939 P), (1940, o_214_1940 P), (1941, o_214_1941 P), (1942, o_214_1942 P), (1943, o_214_1943 P), (1944, o_214_1944 P), (1945, o_214_1945 P), (1946, o_214_1946 P), (1947, o_214_1947 P), (1948, o_214_1948 P), (1949, o_214_1949 P), (1950, o_214_1950 P), (1951, o_214_1951 P)] : List (Nat × Obj)) ++ ([(1952, o_214_1952 P), (1953, o_214_1953 P), (1954, o_214_1954 P), (1955, o_214_1955 P), (1956, o_214_1956 P), (1957, o_214_1957 P), (1958, o_214_1958 P), (1959, o_214_1959 P), (1960, o_214_1960 P)] : List (Nat × Obj))
def t_214 (P : Params) : BT := (insAll (l_214 P) (t_213 P)).getD .nil
def S_214 (w : World) (os : OsState) : SharedT := ⟨t_214 w.params, 1961, {}, #[], ⟨0, 0, 0, 0⟩, 2969, os⟩
def o_227_3 (P : Params) : Obj := ⟨(.type "dict"), none, (.dict ⟨(([⟨PyData.keyHash P "__name__", (.str "__name__" 165), (.str "law_tenwhole_k14_zeros_finished" 2985)⟩, ⟨PyData.keyHash P "__doc__", (.str "__doc__" 166), .none⟩, ⟨PyData.keyHash P "__package__", (.str "__package__" 167), .none⟩, ⟨PyData.keyHash P "__loader__", (.str "__loader__" 168), (.builtin "__main__.__loader__#opaque")⟩, ⟨PyData.keyHash P "__spec__", (.str "__spec__" 169), .none⟩, ⟨PyData.keyHash P "__annotations__", (.str "__annotations__" 170), (.ref 6)⟩, ⟨PyData.keyHash P "__builtins__", (.str "__builtins__" 171), (.ref 4)⟩, ⟨PyData.keyHash P "__file__", (.str "__file__" 173), (.str "/claim/cut.py" 172)⟩, ⟨PyData.keyHash P "__cached__", (.str "__cached__" 174), .none⟩, ⟨PyData.keyHash P "_wall", (.str "_wall" 193), (.ref 21)⟩, ⟨PyData.keyHash P "ORDER", (.str "ORDER" 204), (.ref 22)⟩, ⟨PyData.keyHash P "INVALID", (.str "INVALID" 209), (.ref 23)⟩] : List DictEntry) ++ ([⟨PyData.keyHash P "TenSignal", (.str "TenSignal" 238), (.ref 40)⟩, ⟨PyData.keyHash P "Clamped", (.str "Clamped" 254), (.ref 53)⟩, ⟨PyData.keyHash P "DivisionByZero", (.str "DivisionByZero" 270), (.ref 65)⟩, ⟨PyData.keyHash P "Inexact", (.str "Inexact" 286), (.ref 77)⟩, ⟨PyData.keyHash P "InvalidOperation", (.str "InvalidOperation" 302), (.ref 89)⟩, ⟨PyData.keyHash P "Overflow", (.str "Overflow" 318), (.ref 101)⟩, ⟨PyData.keyHash P "Rounded", (.str "Rounded" 334), (.ref 113)⟩, ⟨PyData.keyHash P "Subnormal", (.str "Subnormal" 350), (.ref 125)⟩, ⟨PyData.keyHash P "Underflow", (.str "Underflow" 366), (.ref 137)⟩, ⟨PyData.keyHash P "TenError", (.str "TenError" 384), (.ref 149)⟩, ⟨PyData.keyHash P "NoOperand", (.str "NoOperand" 409), (.ref 169)⟩, ⟨PyData.keyHash P "NoDecimal", (.str "NoDecimal" 434), (.ref 188)⟩] : List DictEntry) ++ ([⟨PyData.keyHash P "NoContext", (.str "NoContext" 459), (.ref 207)⟩, ⟨PyData.keyHash P "NoName", (.str "NoName" 484), (.ref 226)⟩, ⟨PyData.keyHash P "raise_signal", (.str "raise_signal" 492), (.ref 235)⟩, ⟨PyData.keyHash P "signal_of", (.str "signal_of" 499), (.ref 242)⟩, ⟨PyData.keyHash P "STEP", (.str "STEP" 503), (.int (64) 502)⟩, ⟨PyData.keyHash P "GREAT_decimals", (.str "GREAT_decimals" 507), (.int (10000000000000000000000000000000000000000000000000000000000000000) 506)⟩, ⟨PyData.keyHash P "INFINITY", (.str "INFINITY" 509), (.str "F" 508)⟩, ⟨PyData.keyHash P "QUIET", (.str "QUIET" 511), (.str "n" 510)⟩, ⟨PyData.keyHash P "SIGNALING", (.str "SIGNALING" 513), (.str "N" 512)⟩, ⟨PyData.keyHash P "Decimal", (.str "Decimal" 569), (.ref 280)⟩, ⟨PyData.keyHash P "is_integer", (.str "is_integer" 576), (.ref 291)⟩, ⟨PyData.keyHash P "is_exponent", (.str "is_exponent" 583), (.ref 298)⟩] : List DictEntry) ++ ([⟨PyData.keyHash P "is_finite", (.str "is_finite" 590), (.ref 305)⟩, ⟨PyData.keyHash P "is_infinite", (.str "is_infinite" 597), (.ref 312)⟩, ⟨PyData.keyHash P "is_nan", (.str "is_nan" 604), (.ref 319)⟩, ⟨PyData.keyHash P "is_signaling", (.str "is_signaling" 611), (.ref 326)⟩, ⟨PyData.keyHash P "is_zero", (.str "is_zero" 618), (.ref 333)⟩, ⟨PyData.keyHash P "decimal_of", (.str "decimal_of" 625), (.ref 340)⟩, ⟨PyData.keyHash P "infinity", (.str "infinity" 632), (.ref 347)⟩, ⟨PyData.keyHash P "plain_nan", (.str "plain_nan" 638), (.ref 354)⟩, ⟨PyData.keyHash P "tens", (.str "tens" 647), (.ref 361)⟩, ⟨PyData.keyHash P "count_digits", (.str "count_digits" 655), (.ref 368)⟩, ⟨PyData.keyHash P "digits_of", (.str "digits_of" 661), (.ref 373)⟩, ⟨PyData.keyHash P "order_of", (.str "order_of" 671), (.ref 380)⟩] : List DictEntry) ++ ([⟨PyData.keyHash P "side_of", (.str "side_of" 679), (.ref 387)⟩, ⟨PyData.keyHash P "size_order", (.str "size_order" 690), (.ref 394)⟩, ⟨PyData.keyHash P "Rules", (.str "Rules" 751), (.ref 432)⟩, ⟨PyData.keyHash P "goes_up", (.str "goes_up" 761), (.ref 443)⟩, ⟨PyData.keyHash P "rounded_parts", (.str "rounded_parts" 776), (.ref 450)⟩, ⟨PyData.keyHash P "overflow", (.str "overflow" 786), (.ref 457)⟩, ⟨PyData.keyHash P "finish_zero", (.str "finish_zero" 797), (.ref 464)⟩, ⟨PyData.keyHash P "finish_cut", (.str "finish_cut" 812), (.ref 471)⟩, ⟨PyData.keyHash P "finish_parts", (.str "finish_parts" 826), (.ref 478)⟩, ⟨PyData.keyHash P "finish_endless", (.str "finish_endless" 836), (.ref 485)⟩, ⟨PyData.keyHash P "kept_digits", (.str "kept_digits" 845), (.ref 492)⟩, ⟨PyData.keyHash P "finish", (.str "finish" 853), (.ref 499)⟩] : List DictEntry) ++ ([⟨PyData.keyHash P "nan_of", (.str "nan_of" 859), (.ref 504)⟩, ⟨PyData.keyHash P "invalid", (.str "invalid" 866), (.ref 511)⟩, ⟨PyData.keyHash P "sign_of_both", (.str "sign_of_both" 874), (.ref 518)⟩, ⟨PyData.keyHash P "INVALID_WORD", (.str "INVALID_WORD" 878), (.str "InvalidOperation" 877)⟩, ⟨PyData.keyHash P "as_decimal", (.str "as_decimal" 885), (.ref 525)⟩, ⟨PyData.keyHash P "unsigned", (.str "unsigned" 892), (.ref 532)⟩, ⟨PyData.keyHash P "sided", (.str "sided" 900), (.ref 539)⟩, ⟨PyData.keyHash P "compare", (.str "compare" 910), (.ref 546)⟩, ⟨PyData.keyHash P "compare_signal", (.str "compare_signal" 920), (.ref 553)⟩, ⟨PyData.keyHash P "rank", (.str "rank" 927), (.ref 560)⟩, ⟨PyData.keyHash P "total_size", (.str "total_size" 936), (.ref 567)⟩, ⟨PyData.keyHash P "total_order", (.str "total_order" 944), (.ref 574)⟩] : List DictEntry) ++ ([⟨PyData.keyHash P "compare_total", (.str "compare_total" 953), (.ref 581)⟩, ⟨PyData.keyHash P "compare_total_mag", (.str "compare_total_mag" 962), (.ref 588)⟩, ⟨PyData.keyHash P "equal", (.str "equal" 971), (.ref 595)⟩, ⟨PyData.keyHash P "less", (.str "less" 980), (.ref 602)⟩, ⟨PyData.keyHash P "at_most", (.str "at_most" 989), (.ref 609)⟩, ⟨PyData.keyHash P "is_quiet", (.str "is_quiet" 996), (.ref 616)⟩, ⟨PyData.keyHash P "picked", (.str "picked" 1009), (.ref 623)⟩, ⟨PyData.keyHash P "size_by", (.str "size_by" 1017), (.ref 630)⟩, ⟨PyData.keyHash P "greater_of", (.str "greater_of" 1026), (.ref 637)⟩, ⟨PyData.keyHash P "lesser_of", (.str "lesser_of" 1035), (.ref 644)⟩, ⟨PyData.keyHash P "greater_mag", (.str "greater_mag" 1044), (.ref 651)⟩, ⟨PyData.keyHash P "lesser_mag", (.str "lesser_mag" 1053), (.ref 658)⟩] : List DictEntry) ++ ([⟨PyData.keyHash P "is_low", (.str "is_low" 1061), (.ref 665)⟩, ⟨PyData.keyHash P "is_subnormal", (.str "is_subnormal" 1069), (.ref 672)⟩, ⟨PyData.keyHash P "is_normal", (.str "is_normal" 1077), (.ref 679)⟩, ⟨PyData.keyHash P "number_class", (.str "number_class" 1086), (.ref 686)⟩, ⟨PyData.keyHash P "with_sign", (.str "with_sign" 1096), (.ref 1279)⟩, ⟨PyData.keyHash P "with_sign_copies", (.str "with_sign_copies" 1097), (.ref 693)⟩, ⟨PyData.keyHash P "answer_to", (.str "answer_to" 1105), (.ref 700)⟩, ⟨PyData.keyHash P "copy_of", (.str "copy_of" 1113), (.ref 707)⟩, ⟨PyData.keyHash P "greatest", (.str "greatest" 1123), (.ref 714)⟩, ⟨PyData.keyHash P "stepped", (.str "stepped" 1134), (.ref 721)⟩, ⟨PyData.keyHash P "neighbour", (.str "neighbour" 1146), (.ref 728)⟩, ⟨PyData.keyHash P "next_plus", (.str "next_plus" 1155), (.ref 735)⟩] : List DictEntry) ++ ([⟨PyData.keyHash P "next_minus", (.str "next_minus" 1164), (.ref 742)⟩, ⟨PyData.keyHash P "moved_by", (.str "moved_by" 1172), (.ref 749)⟩, ⟨PyData.keyHash P "next_toward", (.str "next_toward" 1184), (.ref 756)⟩, ⟨PyData.keyHash P "logb", (.str "logb" 1193), (.ref 763)⟩, ⟨PyData.keyHash P "is_step", (.str "is_step" 1201), (.ref 770)⟩, ⟨PyData.keyHash P "signed", (.str "signed" 1208), (.ref 777)⟩, ⟨PyData.keyHash P "scaleb", (.str "scaleb" 1218), (.ref 784)⟩, ⟨PyData.keyHash P "PLAIN_places", (.str "PLAIN_places" 1222), (.str "InvalidOperation" 1221)⟩, ⟨PyData.keyHash P "placed", (.str "placed" 1234), (.ref 791)⟩, ⟨PyData.keyHash P "quantize", (.str "quantize" 1249), (.ref 798)⟩, ⟨PyData.keyHash P "same_quantum", (.str "same_quantum" 1258), (.ref 805)⟩, ⟨PyData.keyHash P "to_integral_exact", (.str "to_integral_exact" 1269), (.ref 812)⟩] : List DictEntry) ++ ([⟨PyData.keyHash P "to_integral_value", (.str "to_integral_value" 1278), (.ref 819)⟩, ⟨PyData.keyHash P "normalize", (.str "normalize" 1292), (.ref 826)⟩, ⟨PyData.keyHash P "GUARD", (.str "GUARD" 1296), (.int (12) 1295)⟩, ⟨PyData.keyHash P "DEEP", (.str "DEEP" 1298), (.int (24) 1297)⟩, ⟨PyData.keyHash P "GREAT_roots", (.str "GREAT_roots" 1300), (.int (19) 1299)⟩, ⟨PyData.keyHash P "unity", (.str "unity" 1306), (.ref 833)⟩, ⟨PyData.keyHash P "root_floor", (.str "root_floor" 1315), (.ref 840)⟩, ⟨PyData.keyHash P "sqrt", (.str "sqrt" 1330), (.ref 847)⟩, ⟨PyData.keyHash P "odd_sum", (.str "odd_sum" 1341), (.ref 854)⟩, ⟨PyData.keyHash P "ten_log", (.str "ten_log" 1349), (.ref 861)⟩, ⟨PyData.keyHash P "log_bounds", (.str "log_bounds" 1370), (.ref 868)⟩, ⟨PyData.keyHash P "exp_sum", (.str "exp_sum" 1382), (.ref 875)⟩] : List DictEntry) ++ ([⟨PyData.keyHash P "exp_bounds", (.str "exp_bounds" 1398), (.ref 882)⟩, ⟨PyData.keyHash P "told_digits", (.str "told_digits" 1410), (.ref 889)⟩, ⟨PyData.keyHash P "far_told", (.str "far_told" 1419), (.ref 896)⟩, ⟨PyData.keyHash P "near_one", (.str "near_one" 1428), (.ref 903)⟩, ⟨PyData.keyHash P "floor_scaled", (.str "floor_scaled" 1438), (.ref 910)⟩, ⟨PyData.keyHash P "exp", (.str "exp" 1451), (.ref 917)⟩, ⟨PyData.keyHash P "log_size", (.str "log_size" 1459), (.ref 924)⟩, ⟨PyData.keyHash P "turned_bounds", (.str "turned_bounds" 1467), (.ref 931)⟩, ⟨PyData.keyHash P "log_special", (.str "log_special" 1476), (.ref 938)⟩, ⟨PyData.keyHash P "ln", (.str "ln" 1490), (.ref 945)⟩, ⟨PyData.keyHash P "log10", (.str "log10" 1508), (.ref 952)⟩, ⟨PyData.keyHash P "MOST_DEGREE", (.str "MOST_DEGREE" 1512), (.int (400) 1511)⟩] : List DictEntry) ++ ([⟨PyData.keyHash P "is_whole", (.str "is_whole" 1519), (.ref 959)⟩, ⟨PyData.keyHash P "whole_of", (.str "whole_of" 1526), (.ref 966)⟩, ⟨PyData.keyHash P "is_odd", (.str "is_odd" 1533), (.ref 973)⟩, ⟨PyData.keyHash P "raised", (.str "raised" 1542), (.ref 980)⟩, ⟨PyData.keyHash P "common", (.str "common" 1550), (.ref 987)⟩, ⟨PyData.keyHash P "split_by", (.str "split_by" 1559), (.ref 994)⟩, ⟨PyData.keyHash P "exact_root", (.str "exact_root" 1570), (.ref 1001)⟩, ⟨PyData.keyHash P "ratio_of", (.str "ratio_of" 1580), (.ref 1008)⟩, ⟨PyData.keyHash P "exact_parts", (.str "exact_parts" 1598), (.ref 1015)⟩, ⟨PyData.keyHash P "exact_told", (.str "exact_told" 1614), (.ref 1022)⟩, ⟨PyData.keyHash P "bounds_times", (.str "bounds_times" 1624), (.ref 1029)⟩, ⟨PyData.keyHash P "power_finite", (.str "power_finite" 1642), (.ref 1036)⟩] : List DictEntry) ++ ([⟨PyData.keyHash P "power_of_one", (.str "power_of_one" 1654), (.ref 1043)⟩, ⟨PyData.keyHash P "power_of_ends", (.str "power_of_ends" 1664), (.ref 1050)⟩, ⟨PyData.keyHash P "power", (.str "power" 1677), (.ref 1057)⟩, ⟨PyData.keyHash P "modulo_power", (.str "modulo_power" 1687), (.ref 1064)⟩, ⟨PyData.keyHash P "power_modulo", (.str "power_modulo" 1702), (.ref 1071)⟩, ⟨PyData.keyHash P "PLAIN_quotients", (.str "PLAIN_quotients" 1706), (.str "InvalidOperation" 1705)⟩, ⟨PyData.keyHash P "UNDEFINED", (.str "UNDEFINED" 1708), (.str "DivisionUndefined" 1707)⟩, ⟨PyData.keyHash P "IMPOSSIBLE", (.str "IMPOSSIBLE" 1710), (.str "DivisionImpossible" 1709)⟩, ⟨PyData.keyHash P "BY_ZERO", (.str "BY_ZERO" 1712), (.str "DivisionByZero" 1711)⟩, ⟨PyData.keyHash P "shared_divisor", (.str "shared_divisor" 1720), (.ref 1078)⟩, ⟨PyData.keyHash P "without_factor", (.str "without_factor" 1729), (.ref 1085)⟩, ⟨PyData.keyHash P "exact_quotient", (.str "exact_quotient" 1742), (.ref 1092)⟩] : List DictEntry) ++ ([⟨PyData.keyHash P "first_digits", (.str "first_digits" 1754), (.ref 1099)⟩, ⟨PyData.keyHash P "quotient_of", (.str "quotient_of" 1767), (.ref 1106)⟩, ⟨PyData.keyHash P "by_zero", (.str "by_zero" 1775), (.ref 1113)⟩, ⟨PyData.keyHash P "divide", (.str "divide" 1786), (.ref 1120)⟩, ⟨PyData.keyHash P "whole_parts", (.str "whole_parts" 1800), (.ref 1127)⟩, ⟨PyData.keyHash P "divide_int", (.str "divide_int" 1812), (.ref 1134)⟩, ⟨PyData.keyHash P "no_remainder", (.str "no_remainder" 1822), (.ref 1141)⟩, ⟨PyData.keyHash P "remainder", (.str "remainder" 1833), (.ref 1148)⟩, ⟨PyData.keyHash P "both_parts", (.str "both_parts" 1846), (.ref 1155)⟩, ⟨PyData.keyHash P "remainder_near", (.str "remainder_near" 1861), (.ref 1162)⟩, ⟨PyData.keyHash P "last_digits", (.str "last_digits" 1871), (.ref 1169)⟩, ⟨PyData.keyHash P "without_last", (.str "without_last" 1879), (.ref 1176)⟩] : List DictEntry) ++ ([⟨PyData.keyHash P "with_noughts", (.str "with_noughts" 1887), (.ref 1183)⟩, ⟨PyData.keyHash P "early", (.str "early" 1897), (.ref 1190)⟩, ⟨PyData.keyHash P "shift", (.str "shift" 1909), (.ref 1197)⟩, ⟨PyData.keyHash P "rotate", (.str "rotate" 1923), (.ref 1204)⟩, ⟨PyData.keyHash P "bits_of", (.str "bits_of" 1932), (.ref 1211)⟩, ⟨PyData.keyHash P "joined", (.str "joined" 1941), (.ref 1218)⟩, ⟨PyData.keyHash P "combined", (.str "combined" 1947), (.ref 1223)⟩, ⟨PyData.keyHash P "both", (.str "both" 1955), (.ref 1230)⟩, ⟨PyData.keyHash P "either", (.str "either" 1963), (.ref 1237)⟩, ⟨PyData.keyHash P "unlike", (.str "unlike" 1971), (.ref 1244)⟩, ⟨PyData.keyHash P "logical_and", (.str "logical_and" 1980), (.ref 1251)⟩, ⟨PyData.keyHash P "logical_or", (.str "logical_or" 1989), (.ref 1258)⟩] : List DictEntry) ++ ([⟨PyData.keyHash P "logical_xor", (.str "logical_xor" 1998), (.ref 1265)⟩, ⟨PyData.keyHash P "logical_invert", (.str "logical_invert" 2007), (.ref 1272)⟩, ⟨PyData.keyHash P "SPARE", (.str "SPARE" 2011), (.int (3) 2010)⟩, ⟨PyData.keyHash P "with_sign_sums", (.str "with_sign_sums" 2021), (.ref 1279)⟩, ⟨PyData.keyHash P "plus", (.str "plus" 2030), (.ref 1286)⟩, ⟨PyData.keyHash P "minus", (.str "minus" 2039), (.ref 1293)⟩, ⟨PyData.keyHash P "absolute", (.str "absolute" 2047), (.ref 1300)⟩, ⟨PyData.keyHash P "worth", (.str "worth" 2054), (.ref 1307)⟩, ⟨PyData.keyHash P "sum_parts", (.str "sum_parts" 2066), (.ref 1314)⟩, ⟨PyData.keyHash P "added", (.str "added" 2080), (.ref 1321)⟩, ⟨PyData.keyHash P "add", (.str "add" 2090), (.ref 1328)⟩, ⟨PyData.keyHash P "subtract", (.str "subtract" 2100), (.ref 1335)⟩] : List DictEntry) ++ ([⟨PyData.keyHash P "exact_product", (.str "exact_product" 2109), (.ref 1342)⟩, ⟨PyData.keyHash P "multiply", (.str "multiply" 2120), (.ref 1349)⟩, ⟨PyData.keyHash P "fma", (.str "fma" 2134), (.ref 1356)⟩, ⟨PyData.keyHash P "QUESTIONS", (.str "QUESTIONS" 2145), (.ref 1357)⟩, ⟨PyData.keyHash P "COPIES", (.str "COPIES" 2149), (.ref 1358)⟩, ⟨PyData.keyHash P "SINGLE", (.str "SINGLE" 2167), (.ref 1359)⟩, ⟨PyData.keyHash P "DOUBLE", (.str "DOUBLE" 2197), (.ref 1360)⟩, ⟨PyData.keyHash P "is_operation", (.str "is_operation" 2205), (.ref 1367)⟩, ⟨PyData.keyHash P "outcome_of", (.str "outcome_of" 2214), (.ref 1374)⟩, ⟨PyData.keyHash P "with_one", (.str "with_one" 2223), (.ref 1381)⟩, ⟨PyData.keyHash P "with_two", (.str "with_two" 2233), (.ref 1388)⟩, ⟨PyData.keyHash P "first_half", (.str "first_half" 2243), (.ref 1395)⟩] : List DictEntry) ++ ([⟨PyData.keyHash P "second_half", (.str "second_half" 2253), (.ref 1402)⟩, ⟨PyData.keyHash P "MOST", (.str "MOST" 2261), (.int (999999999999999999) 2260)⟩, ⟨PyData.keyHash P "ROUNDINGS", (.str "ROUNDINGS" 2270), (.ref 1403)⟩, ⟨PyData.keyHash P "Context", (.str "Context" 2968), (.ref 1956)⟩, ⟨PyData.keyHash P "check_between", (.str "check_between" 2978), (.ref 1967)⟩, ⟨PyData.keyHash P "names_of", (.str "names_of" 2984), (.ref 1972)⟩, ⟨PyData.keyHash P "_law_well", (.str "_law_well" 2993), (.ref 1979)⟩, ⟨PyData.keyHash P "_law_draw", (.str "_law_draw" 3004), (.ref 1986)⟩, ⟨PyData.keyHash P "_law_one", (.str "_law_one" 3012), (.ref 1993)⟩, ⟨PyData.keyHash P "_law_ten", (.str "_law_ten" 3021), (.ref 2000)⟩, ⟨PyData.keyHash P "_law_parts", (.str "_law_parts" 3028), (.ref 2007)⟩, ⟨PyData.keyHash P "_law_ways", (.str "_law_ways" 3034), (.ref 2014)⟩] : List DictEntry) ++ ([⟨PyData.keyHash P "_law_rules", (.str "_law_rules" 3046), (.ref 2021)⟩, ⟨PyData.keyHash P "_law_context", (.str "_law_context" 3058), (.ref 2028)⟩, ⟨PyData.keyHash P "_law_zero_right", (.str "_law_zero_right" 3071), (.ref 2035)⟩, ⟨PyData.keyHash P "law", (.str "law" 3077), (.ref 2040)⟩] : List DictEntry))⟩ 220), ⟨[]⟩⟩
def o_227_12 (P : Params) : Obj := ⟨.none, none, (.fields ⟨(([(.int (1) 0), (.int (0) 0), (.ref 20), (.int (7) 0), (.int (0) 0), (.ref 29), (.int (12) 0), (.int (0) 0), (.ref 49), (.int (14) 0), (.int (0) 0), (.ref 61)] : List Value) ++ ([(.int (16) 0), (.int (0) 0), (.ref 73), (.int (18) 0), (.int (0) 0), (.ref 85), (.int (20) 0), (.int (0) 0), (.ref 97), (.int (22) 0), (.int (0) 0), (.ref 109)] : List Value) ++ ([(.int (24) 0), (.int (0) 0), (.ref 121), (.int (26) 0), (.int (0) 0), (.ref 133), (.int (28) 0), (.int (0) 0), (.ref 145), (.int (30) 0), (.int (0) 0), (.ref 158)] : List Value) ++ ([(.int (35) 0), (.int (0) 0), (.ref 177), (.int (40) 0), (.int (0) 0), (.ref 196), (.int (45) 0), (.int (0) 0), (.ref 215), (.int (50) 0), (.int (0) 0), (.ref 234)] : List Value) ++ ([(.int (66) 0), (.int (0) 0), (.ref 241), (.int (74) 0), (.int (0) 0), (.ref 248), (.int (101) 0), (.int (0) 0), (.ref 290), (.int (103) 0), (.int (0) 0), (.ref 297)] : List Value) ++ ([(.int (105) 0), (.int (0) 0), (.ref 304), (.int (107) 0), (.int (0) 0), (.ref 311), (.int (109) 0), (.int (0) 0), (.ref 318), (.int (111) 0), (.int (0) 0), (.ref 325)] : List Value) ++ ([(.int (113) 0), (.int (0) 0), (.ref 332), (.int (115) 0), (.int (0) 0), (.ref 339), (.int (121) 0), (.int (0) 0), (.ref 346), (.int (123) 0), (.int (0) 0), (.ref 353)] : List Value) ++ ([(.int (125) 0), (.int (0) 0), (.ref 360), (.int (132) 0), (.int (0) 0), (.ref 367), (.int (138) 0), (.int (0) 0), (.ref 372), (.int (145) 0), (.int (0) 0), (.ref 379)] : List Value) ++ ([(.int (154) 0), (.int (0) 0), (.ref 386), (.int (157) 0), (.int (0) 0), (.ref 393), (.int (165) 0), (.int (0) 0), (.ref 400), (.int (182) 0), (.int (0) 0), (.ref 442)] : List Value) ++ ([(.int (188) 0), (.int (0) 0), (.ref 449), (.int (198) 0), (.int (0) 0), (.ref 456), (.int (204) 0), (.int (0) 0), (.ref 463), (.int (208) 0), (.int (0) 0), (.ref 470)] : List Value) ++ ([(.int (219) 0), (.int (0) 0), (.ref 477), (.int (233) 0), (.int (0) 0), (.ref 484), (.int (235) 0), (.int (0) 0), (.ref 491), (.int (238) 0), (.int (0) 0), (.ref 498)] : List Value) ++ ([(.int (244) 0), (.int (0) 0), (.ref 503), (.int (252) 0), (.int (0) 0), (.ref 510), (.int (254) 0), (.int (0) 0), (.ref 517), (.int (258) 0), (.int (0) 0), (.ref 524)] : List Value) ++ ([(.int (260) 0), (.int (0) 0), (.ref 531), (.int (262) 0), (.int (0) 0), (.ref 538), (.int (264) 0), (.int (0) 0), (.ref 545), (.int (267) 0), (.int (0) 0), (.ref 552)] : List Value) ++ ([(.int (272) 0), (.int (0) 0), (.ref 559), (.int (276) 0), (.int (0) 0), (.ref 566), (.int (285) 0), (.int (0) 0), (.ref 573), (.int (289) 0), (.int (0) 0), (.ref 580)] : List Value) ++ ([(.int (291) 0), (.int (0) 0), (.ref 587), (.int (293) 0), (.int (0) 0), (.ref 594), (.int (297) 0), (.int (0) 0), (.ref 601), (.int (301) 0), (.int (0) 0), (.ref 608)] : List Value) ++ ([(.int (305) 0), (.int (0) 0), (.ref 615), (.int (307) 0), (.int (0) 0), (.ref 622), (.int (319) 0), (.int (0) 0), (.ref 629), (.int (321) 0), (.int (0) 0), (.ref 636)] : List Value) ++ ([(.int (323) 0), (.int (0) 0), (.ref 643), (.int (325) 0), (.int (0) 0), (.ref 650), (.int (327) 0), (.int (0) 0), (.ref 657), (.int (329) 0), (.int (0) 0), (.ref 664)] : List Value) ++ ([(.int (331) 0), (.int (0) 0), (.ref 671), (.int (333) 0), (.int (0) 0), (.ref 678), (.int (335) 0), (.int (0) 0), (.ref 685), (.int (346) 0), (.int (0) 0), (.ref 692)] : List Value) ++ ([(.int (349) 0), (.int (0) 0), (.ref 699), (.int (363) 0), (.int (0) 0), (.ref 706), (.int (368) 0), (.int (0) 0), (.ref 713), (.int (370) 0), (.int (0) 0), (.ref 720)] : List Value) ++ ([(.int (380) 0), (.int (0) 0), (.ref 727), (.int (386) 0), (.int (0) 0), (.ref 734), (.int (389) 0), (.int (0) 0), (.ref 741), (.int (392) 0), (.int (0) 0), (.ref 748)] : List Value) ++ ([(.int (398) 0), (.int (0) 0), (.ref 755), (.int (407) 0), (.int (0) 0), (.ref 762), (.int (416) 0), (.int (0) 0), (.ref 769), (.int (418) 0), (.int (0) 0), (.ref 776)] : List Value) ++ ([(.int (420) 0), (.int (0) 0), (.ref 783), (.int (431) 0), (.int (0) 0), (.ref 790), (.int (437) 0), (.int (0) 0), (.ref 797), (.int (455) 0), (.int (0) 0), (.ref 804)] : List Value) ++ ([(.int (459) 0), (.int (0) 0), (.ref 811), (.int (469) 0), (.int (0) 0), (.ref 818), (.int (472) 0), (.int (0) 0), (.ref 825), (.int (490) 0), (.int (0) 0), (.ref 832)] : List Value) ++ ([(.int (492) 0), (.int (0) 0), (.ref 839), (.int (499) 0), (.int (0) 0), (.ref 846), (.int (517) 0), (.int (0) 0), (.ref 853), (.int (523) 0), (.int (0) 0), (.ref 860)] : List Value) ++ ([(.int (526) 0), (.int (0) 0), (.ref 867), (.int (540) 0), (.int (0) 0), (.ref 874), (.int (547) 0), (.int (0) 0), (.ref 881), (.int (555) 0), (.int (0) 0), (.ref 888)] : List Value) ++ ([(.int (561) 0), (.int (0) 0), (.ref 895), (.int (565) 0), (.int (0) 0), (.ref 902), (.int (569) 0), (.int (0) 0), (.ref 909), (.int (572) 0), (.int (0) 0), (.ref 916)] : List Value) ++ ([(.int (592) 0), (.int (0) 0), (.ref 923), (.int (597) 0), (.int (0) 0), (.ref 930), (.int (599) 0), (.int (0) 0), (.ref 937), (.int (608) 0), (.int (0) 0), (.ref 944)] : List Value) ++ ([(.int (622) 0), (.int (0) 0), (.ref 951), (.int (640) 0), (.int (0) 0), (.ref 958), (.int (646) 0), (.int (0) 0), (.ref 965), (.int (650) 0), (.int (0) 0), (.ref 972)] : List Value) ++ ([(.int (652) 0), (.int (0) 0), (.ref 979), (.int (659) 0), (.int (0) 0), (.ref 986), (.int (663) 0), (.int (0) 0), (.ref 993), (.int (668) 0), (.int (0) 0), (.ref 1000)] : List Value) ++ ([(.int (681) 0), (.int (0) 0), (.ref 1007), (.int (685) 0), (.int (0) 0), (.ref 1014), (.int (700) 0), (.int (0) 0), (.ref 1021), (.int (710) 0), (.int (0) 0), (.ref 1028)] : List Value) ++ ([(.int (718) 0), (.int (0) 0), (.ref 1035), (.int (735) 0), (.int (0) 0), (.ref 1042), (.int (745) 0), (.int (0) 0), (.ref 1049), (.int (748) 0), (.int (0) 0), (.ref 1056)] : List Value) ++ ([(.int (766) 0), (.int (0) 0), (.ref 1063), (.int (774) 0), (.int (0) 0), (.ref 1070), (.int (799) 0), (.int (0) 0), (.ref 1077), (.int (803) 0), (.int (0) 0), (.ref 1084)] : List Value) ++ ([(.int (809) 0), (.int (0) 0), (.ref 1091), (.int (817) 0), (.int (0) 0), (.ref 1098), (.int (821) 0), (.int (0) 0), (.ref 1105), (.int (828) 0), (.int (0) 0), (.ref 1112)] : List Value) ++ ([(.int (830) 0), (.int (0) 0), (.ref 1119), (.int (843) 0), (.int (0) 0), (.ref 1126), (.int (855) 0), (.int (0) 0), (.ref 1133), (.int (867) 0), (.int (0) 0), (.ref 1140)] : List Value) ++ ([(.int (878) 0), (.int (0) 0), (.ref 1147), (.int (886) 0), (.int (0) 0), (.ref 1154), (.int (890) 0), (.int (0) 0), (.ref 1161), (.int (908) 0), (.int (0) 0), (.ref 1168)] : List Value) ++ ([(.int (910) 0), (.int (0) 0), (.ref 1175), (.int (912) 0), (.int (0) 0), (.ref 1182), (.int (914) 0), (.int (0) 0), (.ref 1189), (.int (921) 0), (.int (0) 0), (.ref 1196)] : List Value) ++ ([(.int (931) 0), (.int (0) 0), (.ref 1203), (.int (939) 0), (.int (0) 0), (.ref 1210), (.int (944) 0), (.int (0) 0), (.ref 1217), (.int (949) 0), (.int (0) 0), (.ref 1222)] : List Value) ++ ([(.int (956) 0), (.int (0) 0), (.ref 1229), (.int (958) 0), (.int (0) 0), (.ref 1236), (.int (960) 0), (.int (0) 0), (.ref 1243), (.int (962) 0), (.int (0) 0), (.ref 1250)] : List Value) ++ ([(.int (964) 0), (.int (0) 0), (.ref 1257), (.int (966) 0), (.int (0) 0), (.ref 1264), (.int (968) 0), (.int (0) 0), (.ref 1271), (.int (975) 0), (.int (0) 0), (.ref 1278)] : List Value) ++ ([(.int (980) 0), (.int (0) 0), (.ref 1285), (.int (983) 0), (.int (0) 0), (.ref 1292), (.int (986) 0), (.int (0) 0), (.ref 1299), (.int (988) 0), (.int (0) 0), (.ref 1306)] : List Value) ++ ([(.int (990) 0), (.int (0) 0), (.ref 1313), (.int (1001) 0), (.int (0) 0), (.ref 1320), (.int (1012) 0), (.int (0) 0), (.ref 1327), (.int (1015) 0), (.int (0) 0), (.ref 1334)] : List Value) ++ ([(.int (1018) 0), (.int (0) 0), (.ref 1341), (.int (1023) 0), (.int (0) 0), (.ref 1348), (.int (1029) 0), (.int (0) 0), (.ref 1355), (.int (1041) 0), (.int (0) 0), (.ref 1366)] : List Value) ++ ([(.int (1049) 0), (.int (0) 0), (.ref 1373), (.int (1063) 0), (.int (0) 0), (.ref 1380), (.int (1097) 0), (.int (0) 0), (.ref 1387), (.int (1101) 0), (.int (0) 0), (.ref 1394)] : List Value) ++ ([(.int (1133) 0), (.int (0) 0), (.ref 1401), (.int (1162) 0), (.int (0) 0), (.ref 1409), (.int (1425) 0), (.int (0) 0), (.ref 1966), (.int (1428) 0), (.int (0) 0), (.ref 1971)] : List Value) ++ ([(.int (1433) 0), (.int (0) 0), (.ref 1978), (.int (1435) 0), (.int (0) 0), (.ref 1985), (.int (1446) 0), (.int (0) 0), (.ref 1992), (.int (1448) 0), (.int (0) 0), (.ref 1999)] : List Value) ++ ([(.int (1455) 0), (.int (0) 0), (.ref 2006), (.int (1457) 0), (.int (0) 0), (.ref 2013), (.int (1459) 0), (.int (0) 0), (.ref 2020), (.int (1463) 0), (.int (0) 0), (.ref 2027)] : List Value) ++ ([(.int (1466) 0), (.int (0) 0), (.ref 2034), (.int (1475) 0), (.int (0) 0), (.ref 2039)] : List Value))⟩), ⟨[]⟩⟩
def o_227_1961 (P : Params) : Obj := ⟨(.type "tuple"), none, (.seq ⟨([] : List Value)⟩ 0), ⟨[]⟩⟩
def o_227_1962 (P : Params) : Obj := ⟨.none, none, (.fields ⟨([] : List Value)⟩), ⟨[]⟩⟩
def o_227_1963 (P : Params) : Obj := ⟨(.type "tuple"), none, (.seq ⟨(([(.str "thing" 2972), (.str "least" 2973), (.str "most" 2974), (.str "part" 2975)] : List Value))⟩ 0), ⟨[]⟩⟩
def o_227_1964 (P : Params) : Obj := ⟨(.type "tuple"), none, (.seq ⟨([] : List Value)⟩ 0), ⟨[]⟩⟩
def o_227_1965 (P : Params) : Obj := ⟨.none, none, (.func ⟨"check_between", "check_between", defArgs (top 214), .stmts (defBody (top 214)), defScope (top 214), 0, [], .none, .none, .none, .none, none, .none, .none, 0⟩), ⟨[]⟩⟩
def o_227_1966 (P : Params) : Obj := ⟨(.type "code"), none, (.fields ⟨(([(.str "check_between" 2969), (.str "check_between" 2970), (.str "/claim/cut.py" 2971), (.int (1425) 0), (.int (4) 0), (.int (0) 0), (.int (0) 0), (.int (3) 0), (.ref 1961), (.bool true), (.int (181) 0), (.ref 1962)] : List Value) ++ ([.none, (.ref 1963), (.ref 1964), (.ref 1965), (.int (2976) 0), (.int (1425) 0), (.str "/claim/cut.py" 2977)] : List Value))⟩), ⟨[]⟩⟩
def o_227_1967 (P : Params) : Obj := ⟨(.type "function"), none, (.func ⟨"check_between", "check_between", defArgs (top 214), .stmts (defBody (top 214)), defScope (top 214), 3, [], .none, .none, .none, (.str "tenwhole.contexts" 2254), none, (.ref 1966), .none, 0⟩), ⟨[]⟩⟩
def o_227_1968 (P : Params) : Obj := ⟨(.type "tuple"), none, (.seq ⟨([] : List Value)⟩ 0), ⟨[]⟩⟩
def o_227_1969 (P : Params) : Obj := ⟨.none, none, (.fields ⟨([] : List Value)⟩), ⟨[]⟩⟩
def o_227_1970 (P : Params) : Obj := ⟨.none, none, (.func ⟨"names_of", "names_of", defArgs (top 215), .stmts (defBody (top 215)), defScope (top 215), 0, [], .none, .none, .none, .none, none, .none, .none, 0⟩), ⟨[]⟩⟩
def o_227_1971 (P : Params) : Obj := ⟨(.type "code"), none, (.fields ⟨(([(.str "names_of" 2979), (.str "names_of" 2980), (.str "/claim/cut.py" 2981), (.int (1428) 0), (.int (2) 0), (.int (0) 0), (.int (0) 0), (.int (3) 0), (.ref 1968), (.bool true), (.int (181) 0), (.ref 1969)] : List Value) ++ ([.none, .none, .none, (.ref 1970), (.int (2982) 0), (.int (1428) 0), (.str "/claim/cut.py" 2983)] : List Value))⟩), ⟨[]⟩⟩
def o_227_1972 (P : Params) : Obj := ⟨(.type "function"), none, (.func ⟨"names_of", "names_of", defArgs (top 215), .stmts (defBody (top 215)), defScope (top 215), 3, [], .none, .none, .none, (.str "tenwhole.contexts" 2254), none, (.ref 1971), .none, 0⟩), ⟨[]⟩⟩
def o_227_1973 (P : Params) : Obj := ⟨(.type "tuple"), none, (.seq ⟨([] : List Value)⟩ 0), ⟨[]⟩⟩
def o_227_1974 (P : Params) : Obj := ⟨.none, none, (.fields ⟨([] : List Value)⟩), ⟨[]⟩⟩
def o_227_1975 (P : Params) : Obj := ⟨(.type "tuple"), none, (.seq ⟨(([(.str "_law_cell" 2990)] : List Value))⟩ 0), ⟨[]⟩⟩
def o_227_1976 (P : Params) : Obj := ⟨(.type "tuple"), none, (.seq ⟨([] : List Value)⟩ 0), ⟨[]⟩⟩
def o_227_1977 (P : Params) : Obj := ⟨.none, none, (.func ⟨"_law_well", "_law_well", defArgs (top 217), .stmts (defBody (top 217)), defScope (top 217), 0, [], .none, .none, .none, .none, none, .none, .none, 0⟩), ⟨[]⟩⟩
def o_227_1978 (P : Params) : Obj := ⟨(.type "code"), none, (.fields ⟨(([(.str "_law_well" 2987), (.str "_law_well" 2988), (.str "/claim/cut.py" 2989), (.int (1433) 0), (.int (1) 0), (.int (0) 0), (.int (0) 0), (.int (3) 0), (.ref 1973), (.bool true), (.int (181) 0), (.ref 1974)] : List Value) ++ ([.none, (.ref 1975), (.ref 1976), (.ref 1977), (.int (2991) 0), (.int (1433) 0), (.str "/claim/cut.py" 2992)] : List Value))⟩), ⟨[]⟩⟩
def o_227_1979 (P : Params) : Obj := ⟨(.type "function"), none, (.func ⟨"_law_well", "_law_well", defArgs (top 217), .stmts (defBody (top 217)), defScope (top 217), 3, [], .none, .none, .none, (.str "law_tenwhole_k14_zeros_finished" 2985), none, (.ref 1978), .none, 0⟩), ⟨[]⟩⟩
def o_227_1980 (P : Params) : Obj := ⟨(.type "tuple"), none, (.seq ⟨([] : List Value)⟩ 0), ⟨[]⟩⟩
def o_227_1981 (P : Params) : Obj := ⟨.none, none, (.fields ⟨([] : List Value)⟩), ⟨[]⟩⟩
def o_227_1982 (P : Params) : Obj := ⟨(.type "tuple"), none, (.seq ⟨(([(.str "_law_well_here" 2997), (.str "_law_many" 2998), (.str "_law_digit" 2999), (.str "_law_number" 3000), (.str "_law_mixed" 3001)] : List Value))⟩ 0), ⟨[]⟩⟩
def o_227_1983 (P : Params) : Obj := ⟨(.type "tuple"), none, (.seq ⟨([] : List Value)⟩ 0), ⟨[]⟩⟩
def o_227_1984 (P : Params) : Obj := ⟨.none, none, (.func ⟨"_law_draw", "_law_draw", defArgs (top 218), .stmts (defBody (top 218)), defScope (top 218), 0, [], .none, .none, .none, .none, none, .none, .none, 0⟩), ⟨[]⟩⟩
def o_227_1985 (P : Params) : Obj := ⟨(.type "code"), none, (.fields ⟨(([(.str "_law_draw" 2994), (.str "_law_draw" 2995), (.str "/claim/cut.py" 2996), (.int (1435) 0), (.int (2) 0), (.int (0) 0), (.int (0) 0), (.int (3) 0), (.ref 1980), (.bool true), (.int (181) 0), (.ref 1981)] : List Value) ++ ([.none, (.ref 1982), (.ref 1983), (.ref 1984), (.int (3002) 0), (.int (1435) 0), (.str "/claim/cut.py" 3003)] : List Value))⟩), ⟨[]⟩⟩
def o_227_1986 (P : Params) : Obj := ⟨(.type "function"), none, (.func ⟨"_law_draw", "_law_draw", defArgs (top 218), .stmts (defBody (top 218)), defScope (top 218), 3, [], .none, .none, .none, (.str "law_tenwhole_k14_zeros_finished" 2985), none, (.ref 1985), .none, 0⟩), ⟨[]⟩⟩
def o_227_1987 (P : Params) : Obj := ⟨(.type "tuple"), none, (.seq ⟨([] : List Value)⟩ 0), ⟨[]⟩⟩
def o_227_1988 (P : Params) : Obj := ⟨.none, none, (.fields ⟨([] : List Value)⟩), ⟨[]⟩⟩
def o_227_1989 (P : Params) : Obj := ⟨(.type "tuple"), none, (.seq ⟨(([(.str "_law_well_here" 3008), (.str "_law_some" 3009)] : List Value))⟩ 0), ⟨[]⟩⟩
def o_227_1990 (P : Params) : Obj := ⟨(.type "tuple"), none, (.seq ⟨([] : List Value)⟩ 0), ⟨[]⟩⟩
def o_227_1991 (P : Params) : Obj := ⟨.none, none, (.func ⟨"_law_one", "_law_one", defArgs (top 219), .stmts (defBody (top 219)), defScope (top 219), 0, [], .none, .none, .none, .none, none, .none, .none, 0⟩), ⟨[]⟩⟩
def o_227_1992 (P : Params) : Obj := ⟨(.type "code"), none, (.fields ⟨(([(.str "_law_one" 3005), (.str "_law_one" 3006), (.str "/claim/cut.py" 3007), (.int (1446) 0), (.int (2) 0), (.int (0) 0), (.int (0) 0), (.int (3) 0), (.ref 1987), (.bool true), (.int (181) 0), (.ref 1988)] : List Value) ++ ([.none, (.ref 1989), (.ref 1990), (.ref 1991), (.int (3010) 0), (.int (1446) 0), (.str "/claim/cut.py" 3011)] : List Value))⟩), ⟨[]⟩⟩
def o_227_1993 (P : Params) : Obj := ⟨(.type "function"), none, (.func ⟨"_law_one", "_law_one", defArgs (top 219), .stmts (defBody (top 219)), defScope (top 219), 3, [], .none, .none, .none, (.str "law_tenwhole_k14_zeros_finished" 2985), none, (.ref 1992), .none, 0⟩), ⟨[]⟩⟩
def o_227_1994 (P : Params) : Obj := ⟨(.type "tuple"), none, (.seq ⟨([] : List Value)⟩ 0), ⟨[]⟩⟩
def o_227_1995 (P : Params) : Obj := ⟨.none, none, (.fields ⟨([] : List Value)⟩), ⟨[]⟩⟩
def o_227_1996 (P : Params) : Obj := ⟨(.type "tuple"), none, (.seq ⟨(([(.str "_law_many" 3016), (.str "_law_found" 3017), (.str "_law_turn" 3018)] : List Value))⟩ 0), ⟨[]⟩⟩
def o_227_1997 (P : Params) : Obj := ⟨(.type "tuple"), none, (.seq ⟨([] : List Value)⟩ 0), ⟨[]⟩⟩
def o_227_1998 (P : Params) : Obj := ⟨.none, none, (.func ⟨"_law_ten", "_law_ten", defArgs (top 220), .stmts (defBody (top 220)), defScope (top 220), 0, [], .none, .none, .none, .none, none, .none, .none, 0⟩), ⟨[]⟩⟩
def o_227_1999 (P : Params) : Obj := ⟨(.type "code"), none, (.fields ⟨(([(.str "_law_ten" 3013), (.str "_law_ten" 3014), (.str "/claim/cut.py" 3015), (.int (1448) 0), (.int (1) 0), (.int (0) 0), (.int (0) 0), (.int (3) 0), (.ref 1994), (.bool true), (.int (181) 0), (.ref 1995)] : List Value) ++ ([.none, (.ref 1996), (.ref 1997), (.ref 1998), (.int (3019) 0), (.int (1448) 0), (.str "/claim/cut.py" 3020)] : List Value))⟩), ⟨[]⟩⟩
def o_227_2000 (P : Params) : Obj := ⟨(.type "function"), none, (.func ⟨"_law_ten", "_law_ten", defArgs (top 220), .stmts (defBody (top 220)), defScope (top 220), 3, [], .none, .none, .none, (.str "law_tenwhole_k14_zeros_finished" 2985), none, (.ref 1999), .none, 0⟩), ⟨[]⟩⟩
def o_227_2001 (P : Params) : Obj := ⟨(.type "tuple"), none, (.seq ⟨([] : List Value)⟩ 0), ⟨[]⟩⟩
def o_227_2002 (P : Params) : Obj := ⟨.none, none, (.fields ⟨([] : List Value)⟩), ⟨[]⟩⟩
def o_227_2003 (P : Params) : Obj := ⟨(.type "tuple"), none, (.seq ⟨(([(.str "_law_a" 3025)] : List Value))⟩ 0), ⟨[]⟩⟩
def o_227_2004 (P : Params) : Obj := ⟨(.type "tuple"), none, (.seq ⟨([] : List Value)⟩ 0), ⟨[]⟩⟩
def o_227_2005 (P : Params) : Obj := ⟨.none, none, (.func ⟨"_law_parts", "_law_parts", defArgs (top 221), .stmts (defBody (top 221)), defScope (top 221), 0, [], .none, .none, .none, .none, none, .none, .none, 0⟩), ⟨[]⟩⟩
def o_227_2006 (P : Params) : Obj := ⟨(.type "code"), none, (.fields ⟨(([(.str "_law_parts" 3022), (.str "_law_parts" 3023), (.str "/claim/cut.py" 3024), (.int (1455) 0), (.int (1) 0), (.int (0) 0), (.int (0) 0), (.int (3) 0), (.ref 2001), (.bool true), (.int (181) 0), (.ref 2002)] : List Value) ++ ([.none, (.ref 2003), (.ref 2004), (.ref 2005), (.int (3026) 0), (.int (1455) 0), (.str "/claim/cut.py" 3027)] : List Value))⟩), ⟨[]⟩⟩
def o_227_2007 (P : Params) : Obj := ⟨(.type "function"), none, (.func ⟨"_law_parts", "_law_parts", defArgs (top 221), .stmts (defBody (top 221)), defScope (top 221), 3, [], .none, .none, .none, (.str "law_tenwhole_k14_zeros_finished" 2985), none, (.ref 2006), .none, 0⟩), ⟨[]⟩⟩
def o_227_2008 (P : Params) : Obj := ⟨(.type "tuple"), none, (.seq ⟨([] : List Value)⟩ 0), ⟨[]⟩⟩
def o_227_2009 (P : Params) : Obj := ⟨.none, none, (.fields ⟨([] : List Value)⟩), ⟨[]⟩⟩
def o_227_2010 (P : Params) : Obj := ⟨(.type "tuple"), none, (.seq ⟨([] : List Value)⟩ 0), ⟨[]⟩⟩
def o_227_2011 (P : Params) : Obj := ⟨(.type "tuple"), none, (.seq ⟨([] : List Value)⟩ 0), ⟨[]⟩⟩
def o_227_2012 (P : Params) : Obj := ⟨.none, none, (.func ⟨"_law_ways", "_law_ways", defArgs (top 222), .stmts (defBody (top 222)), defScope (top 222), 0, [], .none, .none, .none, .none, none, .none, .none, 0⟩), ⟨[]⟩⟩
def o_227_2013 (P : Params) : Obj := ⟨(.type "code"), none, (.fields ⟨(([(.str "_law_ways" 3029), (.str "_law_ways" 3030), (.str "/claim/cut.py" 3031), (.int (1457) 0), (.int (0) 0), (.int (0) 0), (.int (0) 0), (.int (3) 0), (.ref 2008), (.bool true), (.int (181) 0), (.ref 2009)] : List Value) ++ ([.none, (.ref 2010), (.ref 2011), (.ref 2012), (.int (3032) 0), (.int (1457) 0), (.str "/claim/cut.py" 3033)] : List Value))⟩), ⟨[]⟩⟩
def o_227_2014 (P : Params) : Obj := ⟨(.type "function"), none, (.func ⟨"_law_ways", "_law_ways", defArgs (top 222), .stmts (defBody (top 222)), defScope (top 222), 3, [], .none, .none, .none, (.str "law_tenwhole_k14_zeros_finished" 2985), none, (.ref 2013), .none, 0⟩), ⟨[]⟩⟩
def o_227_2015 (P : Params) : Obj := ⟨(.type "tuple"), none, (.seq ⟨([] : List Value)⟩ 0), ⟨[]⟩⟩
def o_227_2016 (P : Params) : Obj := ⟨.none, none, (.fields ⟨([] : List Value)⟩), ⟨[]⟩⟩
def o_227_2017 (P : Params) : Obj := ⟨(.type "tuple"), none, (.seq ⟨(([(.str "_law_well_here" 3038), (.str "_law_most" 3039), (.str "_law_wide" 3040), (.str "_law_way" 3041), (.str "_law_low" 3042), (.str "_law_top" 3043)] : List Value))⟩ 0), ⟨[]⟩⟩
def o_227_2018 (P : Params) : Obj := ⟨(.type "tuple"), none, (.seq ⟨([] : List Value)⟩ 0), ⟨[]⟩⟩
def o_227_2019 (P : Params) : Obj := ⟨.none, none, (.func ⟨"_law_rules", "_law_rules", defArgs (top 223), .stmts (defBody (top 223)), defScope (top 223), 0, [], .none, .none, .none, .none, none, .none, .none, 0⟩), ⟨[]⟩⟩
def o_227_2020 (P : Params) : Obj := ⟨(.type "code"), none, (.fields ⟨(([(.str "_law_rules" 3035), (.str "_law_rules" 3036), (.str "/claim/cut.py" 3037), (.int (1459) 0), (.int (2) 0), (.int (0) 0), (.int (0) 0), (.int (3) 0), (.ref 2015), (.bool true), (.int (181) 0), (.ref 2016)] : List Value) ++ ([.none, (.ref 2017), (.ref 2018), (.ref 2019), (.int (3044) 0), (.int (1459) 0), (.str "/claim/cut.py" 3045)] : List Value))⟩), ⟨[]⟩⟩
def o_227_2021 (P : Params) : Obj := ⟨(.type "function"), none, (.func ⟨"_law_rules", "_law_rules", defArgs (top 223), .stmts (defBody (top 223)), defScope (top 223), 3, [], .none, .none, .none, (.str "law_tenwhole_k14_zeros_finished" 2985), none, (.ref 2020), .none, 0⟩), ⟨[]⟩⟩
def o_227_2022 (P : Params) : Obj := ⟨(.type "tuple"), none, (.seq ⟨([] : List Value)⟩ 0), ⟨[]⟩⟩
def o_227_2023 (P : Params) : Obj := ⟨.none, none, (.fields ⟨([] : List Value)⟩), ⟨[]⟩⟩
def o_227_2024 (P : Params) : Obj := ⟨(.type "tuple"), none, (.seq ⟨(([(.str "_law_rules_here" 3050), (.str "_law_wide" 3051), (.str "_law_way" 3052), (.str "_law_low" 3053), (.str "_law_top" 3054), (.str "_law_folds" 3055)] : List Value))⟩ 0), ⟨[]⟩⟩
def o_227_2025 (P : Params) : Obj := ⟨(.type "tuple"), none, (.seq ⟨([] : List Value)⟩ 0), ⟨[]⟩⟩
def o_227_2026 (P : Params) : Obj := ⟨.none, none, (.func ⟨"_law_context", "_law_context", defArgs (top 224), .stmts (defBody (top 224)), defScope (top 224), 0, [], .none, .none, .none, .none, none, .none, .none, 0⟩), ⟨[]⟩⟩
def o_227_2027 (P : Params) : Obj := ⟨(.type "code"), none, (.fields ⟨(([(.str "_law_context" 3047), (.str "_law_context" 3048), (.str "/claim/cut.py" 3049), (.int (1463) 0), (.int (1) 0), (.int (0) 0), (.int (0) 0), (.int (3) 0), (.ref 2022), (.bool true), (.int (181) 0), (.ref 2023)] : List Value) ++ ([.none, (.ref 2024), (.ref 2025), (.ref 2026), (.int (3056) 0), (.int (1463) 0), (.str "/claim/cut.py" 3057)] : List Value))⟩), ⟨[]⟩⟩
def o_227_2028 (P : Params) : Obj := ⟨(.type "function"), none, (.func ⟨"_law_context", "_law_context", defArgs (top 224), .stmts (defBody (top 224)), defScope (top 224), 3, [], .none, .none, .none, (.str "law_tenwhole_k14_zeros_finished" 2985), none, (.ref 2027), .none, 0⟩), ⟨[]⟩⟩
def o_227_2029 (P : Params) : Obj := ⟨(.type "tuple"), none, (.seq ⟨([] : List Value)⟩ 0), ⟨[]⟩⟩
def o_227_2030 (P : Params) : Obj := ⟨.none, none, (.fields ⟨([] : List Value)⟩), ⟨[]⟩⟩
def o_227_2031 (P : Params) : Obj := ⟨(.type "tuple"), none, (.seq ⟨(([(.str "_law_rules_here" 3062), (.str "_law_sign" 3063), (.str "_law_place" 3064), (.str "_law_told" 3065), (.str "_law_least" 3066), (.str "_law_most" 3067), (.str "_law_goal" 3068)] : List Value))⟩ 0), ⟨[]⟩⟩
def o_227_2032 (P : Params) : Obj := ⟨(.type "tuple"), none, (.seq ⟨([] : List Value)⟩ 0), ⟨[]⟩⟩
def o_227_2033 (P : Params) : Obj := ⟨.none, none, (.func ⟨"_law_zero_right", "_law_zero_right", defArgs (top 225), .stmts (defBody (top 225)), defScope (top 225), 0, [], .none, .none, .none, .none, none, .none, .none, 0⟩), ⟨[]⟩⟩
def o_227_2034 (P : Params) : Obj := ⟨(.type "code"), none, (.fields ⟨(([(.str "_law_zero_right" 3059), (.str "_law_zero_right" 3060), (.str "/claim/cut.py" 3061), (.int (1466) 0), (.int (4) 0), (.int (0) 0), (.int (0) 0), (.int (3) 0), (.ref 2029), (.bool true), (.int (181) 0), (.ref 2030)] : List Value) ++ ([.none, (.ref 2031), (.ref 2032), (.ref 2033), (.int (3069) 0), (.int (1466) 0), (.str "/claim/cut.py" 3070)] : List Value))⟩), ⟨[]⟩⟩
def o_227_2035 (P : Params) : Obj := ⟨(.type "function"), none, (.func ⟨"_law_zero_right", "_law_zero_right", defArgs (top 225), .stmts (defBody (top 225)), defScope (top 225), 3, [], .none, .none, .none, (.str "law_tenwhole_k14_zeros_finished" 2985), none, (.ref 2034), .none, 0⟩), ⟨[]⟩⟩
def o_227_2036 (P : Params) : Obj := ⟨(.type "tuple"), none, (.seq ⟨([] : List Value)⟩ 0), ⟨[]⟩⟩
def o_227_2037 (P : Params) : Obj := ⟨.none, none, (.fields ⟨([] : List Value)⟩), ⟨[]⟩⟩
def o_227_2038 (P : Params) : Obj := ⟨.none, none, (.func ⟨"law", "law", defArgs (top 226), .stmts (defBody (top 226)), defScope (top 226), 0, [], .none, .none, .none, .none, none, .none, .none, 0⟩), ⟨[]⟩⟩
def o_227_2039 (P : Params) : Obj := ⟨(.type "code"), none, (.fields ⟨(([(.str "law" 3072), (.str "law" 3073), (.str "/claim/cut.py" 3074), (.int (1475) 0), (.int (1) 0), (.int (0) 0), (.int (0) 0), (.int (3) 0), (.ref 2036), (.bool true), (.int (181) 0), (.ref 2037)] : List Value) ++ ([.none, .none, .none, (.ref 2038), (.int (3075) 0), (.int (1475) 0), (.str "/claim/cut.py" 3076)] : List Value))⟩), ⟨[]⟩⟩
def o_227_2040 (P : Params) : Obj := ⟨(.type "function"), none, (.func ⟨"law", "law", defArgs (top 226), .stmts (defBody (top 226)), defScope (top 226), 3, [], .none, .none, .none, (.str "law_tenwhole_k14_zeros_finished" 2985), none, (.ref 2039), .none, 0⟩), ⟨[]⟩⟩
def l_227 (P : Params) : List (Nat × Obj) := ([(3, o_227_3 P), (12, o_227_12 P), (1961, o_227_1961 P), (1962, o_227_1962 P), (1963, o_227_1963 P), (1964, o_227_1964 P), (1965, o_227_1965 P), (1966, o_227_1966 P), (1967, o_227_1967 P), (1968, o_227_1968 P), (1969, o_227_1969 P), (1970, o_227_1970 P), (1971, o_227_1971 P), (1972, o_227_1972 P), (1973, o_227_1973 P), (1974, o_227_1974 P), (1975, o_227_1975 P), (1976, o_227_1976 P), (1977, o_227_1977 P), (1978, o_227_1978 P), (1979, o_227_1979 P), (1980, o_227_1980 P), (1981, o_227_1981 P), (1982, o_227_1982 P), (1983, o_227_1983 P)] : List (Nat × Obj)) ++ ([(1984, o_227_1984 P), (1985, o_227_1985 P), (1986, o_227_1986 P), (1987, o_227_1987 P), (1988, o_227_1988 P), (1989, o_227_1989 P), (1990, o_227_1990 P), (1991, o_227_1991 P), (1992, o_227_1992 P), (1993, o_227_1993 P), (1994, o_227_1994 P), (1995, o_227_1995 P), (1996, o_227_1996 P), (1997, o_227_1997 P), (1998, o_227_1998 P), (1999, o_227_1999 P), (2000, o_227_2000 P), (2001, o_227_2001 P), (2002, o_227_2002 P), (2003, o_227_2003 P), (2004, o_227_2004 P), (2005, o_227_2005 P), (2006, o_227_2006 P), (2007, o_227_2007 P), (2008, o_227_2008 P)] : List (Nat × Obj)) ++ ([(2009, o_227_2009 P), (2010, o_227_2010 P), (2011, o_227_2011 P), (2012, o_227_2012 P), (2013, o_227_2013 P), (2014, o_227_2014 P), (2015, o_227_2015 P), (2016, o_227_2016 P), (2017, o_227_2017 P), (2018, o_227_2018 P), (2019, o_227_2019 P), (2020, o_227_2020 P), (2021, o_227_2021 P), (2022, o_227_2022 P), (2023, o_227_2023 P), (2024, o_227_2024 P), (2025, o_227_2025 P), (2026, o_227_2026 P), (2027, o_227_2027 P), (2028, o_227_2028 P), (2029, o_227_2029 P), (2030, o_227_2030 P), (2031, o_227_2031 P), (2032, o_227_2032 P), (2033, o_227_2033 P)] : List (Nat × Obj)) ++ ([(2034, o_227_2034 P), (2035, o_227_2035 P), (2036, o_227_2036 P), (2037, o_227_2037 P), (2038, o_227_2038 P), (2039, o_227_2039 P), (2040, o_227_2040 P)] : List (Nat × Obj))
def t_227 (P : Params) : BT := (insAll (l_227 P) (t_214 P)).getD .nil
def S_227 (w : World) (os : OsState) : SharedT := ⟨t_227 w.params, 2041, {}, #[], ⟨0, 0, 0, 0⟩, 3078, os⟩
theorem pre_ok (w : World) (os : OsState) : goT (stepQ (denQ tabQ) pr w) 11 an 12 (bootT w os (bt0 w.params, 11)) (topStub pr) = some (S_pre w os, ⟨denQ tabQ cE, cE, ⟨0, 0, 0, 0⟩, [topFrame fq]⟩) := by kernel_rfl
theorem boot_eq (w : World) (os : OsState) : putAll (boot_heap w.params).objs.toList .nil 0 = some (bt0 w.params, 11) := by kernel_rfl
theorem block_ok (w : World) (os : OsState) : segRun treeTable pr w 11 an 1 1 (S_pre w os).abs (blockOf (behindTheImports pr) env cE ⟨0, 0, 0, 0⟩ [topFrame fq]) = some (.next, (S_block w os).abs, cE, ⟨0, 0, 0, 0⟩) := seg_of (by kernel_rfl)
def p_11 : List Stmt := ((behindTheImports pr).drop 0).take 11
theorem seg_11 (w : World) (os : OsState) : segF (stepQ (denQ tabQ) pr w) 11 an 1 1577 (S_block w os) (piecesOf p_11 env cE ⟨0, 0, 0, 0⟩ [topFrame fq]) = some (.next, S_11 w os, cE, ⟨22, 0, 23, 8⟩) := by kernel_rfl
def p_18 : List Stmt := ((behindTheImports pr).drop 11).take 7
theorem seg_18 (w : World) (os : OsState) : segF (stepQ (denQ tabQ) pr w) 11 an 1 1593 (S_11 w os) (piecesOf p_18 env cE ⟨22, 0, 23, 8⟩ [topFrame fq]) = some (.next, S_18 w os, cE, ⟨45, 0, 49, 24⟩) := by kernel_rfl
def p_53 : List Stmt := ((behindTheImports pr).drop 18).take 35
theorem seg_53 (w : World) (os : OsState) : segF (stepQ (denQ tabQ) pr w) 11 an 1 1520 (S_18 w os) (piecesOf p_53 env cE ⟨45, 0, 49, 24⟩ [topFrame fq]) = some (.next, S_53 w os, cE, ⟨235, 0, 237, 77⟩) := by kernel_rfl
def p_107 : List Stmt := ((behindTheImports pr).drop 53).take 54
theorem seg_107 (w : World) (os : OsState) : segF (stepQ (denQ tabQ) pr w) 11 an 1 1517 (S_53 w os) (piecesOf p_107 env cE ⟨235, 0, 237, 77⟩ [topFrame fq]) = some (.next, S_107 w os, cE, ⟨469, 0, 471, 75⟩) := by kernel_rfl
def p_161 : List Stmt := ((behindTheImports pr).drop 107).take 54
theorem seg_161 (w : World) (os : OsState) : segF (stepQ (denQ tabQ) pr w) 11 an 1 1532 (S_107 w os) (piecesOf p_161 env cE ⟨469, 0, 471, 75⟩ [topFrame fq]) = some (.next, S_161 w os, cE, ⟨830, 0, 842, 35⟩) := by kernel_rfl
def p_213 : List Stmt := ((behindTheImports pr).drop 161).take 52
theorem seg_213 (w : World) (os : OsState) : segF (stepQ (denQ tabQ) pr w) 11 an 1 1467 (S_161 w os) (piecesOf p_213 env cE ⟨830, 0, 842, 35⟩ [topFrame fq]) = some (.next, S_213 w os, cE, ⟨1161, 0, 1161, 9⟩) := by kernel_rfl
def p_214 : List Stmt := ((behindTheImports pr).drop 213).take 1
theorem seg_214 (w : World) (os : OsState) : segF (stepQ (denQ tabQ) pr w) 11 an 1 2763 (S_213 w os) (piecesOf p_214 env cE ⟨1161, 0, 1161, 9⟩ [topFrame fq]) = some (.next, S_214 w os, cE, ⟨1162, 0, 1424, 50⟩) := by kernel_rfl
def p_227 : List Stmt := ((behindTheImports pr).drop 214).take 13
theorem seg_227 (w : World) (os : OsState) : segF (stepQ (denQ tabQ) pr w) 11 an 1 377 (S_214 w os) (piecesOf p_227 env cE ⟨1162, 0, 1424, 50⟩ [topFrame fq]) = some (.next, S_227 w os, cE, ⟨1475, 0, 1493, 15⟩) := by kernel_rfl
theorem body_eq : behindTheImports pr = p_11 ++ (p_18 ++ (p_53 ++ (p_107 ++ (p_161 ++ (p_213 ++ (p_214 ++ (p_227 ++ []))))))) := by kernel_rfl
theorem fin_ok (w : World) (os : OsState) : topRun treeTable pr w 11 an 2 (S_227 w os).abs (restOf [] env cE ⟨1475, 0, 1493, 15⟩ [topFrame fq]) = some (S_227 w os).abs := by kernel_rfl
abbrev total : Nat := 12 + (1 + (1577 + (1593 + (1520 + (1517 + (1532 + (1467 + (2763 + (377 + 2)))))))))
theorem top_run (w : World) (os : OsState) : topRun treeTable pr w 11 an total ⟨boot_heap w.params, #[], boot_drawn, boot_toks, os⟩ (topStub pr) = some (S_227 w os).abs := by
  refine go_top (pre_of (boot_eq w os) (by rw [denQ_eq, tabQ_eq]; exact pre_ok w os)) (piece_block (env := env) (b := behindTheImports pr) (block_ok w os) ?_)
  rw [body_eq]
  exact piece_app (seg_of (seg_11 w os)) (piece_app (seg_of (seg_18 w os)) (piece_app (seg_of (seg_53 w os)) (piece_app (seg_of (seg_107 w os)) (piece_app (seg_of (seg_161 w os)) (piece_app (seg_of (seg_213 w os)) (piece_app (seg_of (seg_214 w os)) (piece_app (seg_of (seg_227 w os)) (fin_ok w os))))))))
end Ht
end
noncomputable section
namespace Ht
open PySem PySem.W PySem.Calls PyProof.Rows HandSHeadRun Hc Tw L2
def dd_tens : He.DefD := ⟨("tens", none), "tens", "tens", defArgs s_tens, defBody s_tens, defScope s_tens, [], []⟩
def dd_is_integer : He.DefD := ⟨("is_integer", none), "is_integer", "is_integer", defArgs s_is_integer, defBody s_is_integer, defScope s_is_integer, [], []⟩
def dd_is_exponent : He.DefD := ⟨("is_exponent", none), "is_exponent", "is_exponent", defArgs s_is_exponent, defBody s_is_exponent, defScope s_is_exponent, [], []⟩
def dd_Decimal___init__ : He.DefD := ⟨("Decimal", some "__init__"), "__init__", "Decimal.__init__", defArgs s_Decimal___init__, defBody s_Decimal___init__, defScope s_Decimal___init__, [], []⟩
def dd_is_finite : He.DefD := ⟨("is_finite", none), "is_finite", "is_finite", defArgs s_is_finite, defBody s_is_finite, defScope s_is_finite, [], []⟩
def dd_is_infinite : He.DefD := ⟨("is_infinite", none), "is_infinite", "is_infinite", defArgs s_is_infinite, defBody s_is_infinite, defScope s_is_infinite, [], []⟩
def dd_is_nan : He.DefD := ⟨("is_nan", none), "is_nan", "is_nan", defArgs s_is_nan, defBody s_is_nan, defScope s_is_nan, [], []⟩
def dd_is_signaling : He.DefD := ⟨("is_signaling", none), "is_signaling", "is_signaling", defArgs s_is_signaling, defBody s_is_signaling, defScope s_is_signaling, [], []⟩
def dd_is_zero : He.DefD := ⟨("is_zero", none), "is_zero", "is_zero", defArgs s_is_zero, defBody s_is_zero, defScope s_is_zero, [], []⟩
def dd_decimal_of : He.DefD := ⟨("decimal_of", none), "decimal_of", "decimal_of", defArgs s_decimal_of, defBody s_decimal_of, defScope s_decimal_of, [], []⟩
def dd_Rules___init__ : He.DefD := ⟨("Rules", some "__init__"), "__init__", "Rules.__init__", defArgs s_Rules___init__, defBody s_Rules___init__, defScope s_Rules___init__, [], []⟩
def dd_Rules_etiny : He.DefD := ⟨("Rules", some "etiny"), "etiny", "Rules.etiny", defArgs s_Rules_etiny, defBody s_Rules_etiny, defScope s_Rules_etiny, [], []⟩
def dd_Rules_etop : He.DefD := ⟨("Rules", some "etop"), "etop", "Rules.etop", defArgs s_Rules_etop, defBody s_Rules_etop, defScope s_Rules_etop, [], []⟩
def dd_finish_zero : He.DefD := ⟨("finish_zero", none), "finish_zero", "finish_zero", defArgs s_finish_zero, defBody s_finish_zero, defScope s_finish_zero, [], []⟩
def dd_finish_parts : He.DefD := ⟨("finish_parts", none), "finish_parts", "finish_parts", defArgs s_finish_parts, defBody s_finish_parts, defScope s_finish_parts, [], []⟩
def dd_finish : He.DefD := ⟨("finish", none), "finish", "finish", defArgs s_finish, defBody s_finish, defScope s_finish, [], []⟩
def dd_nan_of : He.DefD := ⟨("nan_of", none), "nan_of", "nan_of", defArgs s_nan_of, defBody s_nan_of, defScope s_nan_of, [], []⟩
def dd_with_sign_sums : He.DefD := ⟨("with_sign_sums", none), "with_sign", "with_sign", defArgs s_with_sign_sums, defBody s_with_sign_sums, defScope s_with_sign_sums, [], []⟩
def dd_plus : He.DefD := ⟨("plus", none), "plus", "plus", defArgs s_plus, defBody s_plus, defScope s_plus, [], []⟩
def dd_minus : He.DefD := ⟨("minus", none), "minus", "minus", defArgs s_minus, defBody s_minus, defScope s_minus, [], []⟩
def dd_absolute : He.DefD := ⟨("absolute", none), "absolute", "absolute", defArgs s_absolute, defBody s_absolute, defScope s_absolute, [], []⟩
def dd_with_one : He.DefD := ⟨("with_one", none), "with_one", "with_one", defArgs s_with_one, defBody s_with_one, defScope s_with_one, [], []⟩
def dd_outcome_of : He.DefD := ⟨("outcome_of", none), "outcome_of", "outcome_of", defArgs s_outcome_of, defBody s_outcome_of, defScope s_outcome_of, [], []⟩
def dd_is_operation : He.DefD := ⟨("is_operation", none), "is_operation", "is_operation", defArgs s_is_operation, defBody s_is_operation, defScope s_is_operation, [], []⟩
def dd_signal_of : He.DefD := ⟨("signal_of", none), "signal_of", "signal_of", defArgs s_signal_of, defBody s_signal_of, defScope s_signal_of, [], []⟩
def dd_Context___init__ : He.DefD := ⟨("Context", some "__init__"), "__init__", "Context.__init__", defArgs s_Context___init__, defBody s_Context___init__, defScope s_Context___init__, [], [("prec", He.Dv.int (28)), ("rounding", He.Dv.str "half_even"), ("emin", He.Dv.int (-999999)), ("emax", He.Dv.int (999999)), ("capitals", He.Dv.int (1)), ("clamp", He.Dv.int (0))]⟩
def dd_Context_told : He.DefD := ⟨("Context", some "told"), "told", "Context.told", defArgs s_Context_told, defBody s_Context_told, defScope s_Context_told, [], []⟩
def dd_check_between : He.DefD := ⟨("check_between", none), "check_between", "check_between", defArgs s_check_between, defBody s_check_between, defScope s_check_between, [], []⟩
def dd_names_of : He.DefD := ⟨("names_of", none), "names_of", "names_of", defArgs s_names_of, defBody s_names_of, defScope s_names_of, [], []⟩
def dd__law_well : He.DefD := ⟨("_law_well", none), "_law_well", "_law_well", defArgs s__law_well, defBody s__law_well, defScope s__law_well, [], []⟩
def dd__law_draw : He.DefD := ⟨("_law_draw", none), "_law_draw", "_law_draw", defArgs s__law_draw, defBody s__law_draw, defScope s__law_draw, [], []⟩
def dd__law_one : He.DefD := ⟨("_law_one", none), "_law_one", "_law_one", defArgs s__law_one, defBody s__law_one, defScope s__law_one, [], []⟩
def dd__law_parts : He.DefD := ⟨("_law_parts", none), "_law_parts", "_law_parts", defArgs s__law_parts, defBody s__law_parts, defScope s__law_parts, [], []⟩
def dd__law_ways : He.DefD := ⟨("_law_ways", none), "_law_ways", "_law_ways", defArgs s__law_ways, defBody s__law_ways, defScope s__law_ways, [], []⟩
def dd__law_rules : He.DefD := ⟨("_law_rules", none), "_law_rules", "_law_rules", defArgs s__law_rules, defBody s__law_rules, defScope s__law_rules, [], []⟩
def dd__law_context : He.DefD := ⟨("_law_context", none), "_law_context", "_law_context", defArgs s__law_context, defBody s__law_context, defScope s__law_context, [], []⟩
def dd__law_zero_right : He.DefD := ⟨("_law_zero_right", none), "_law_zero_right", "_law_zero_right", defArgs s__law_zero_right, defBody s__law_zero_right, defScope s__law_zero_right, [], []⟩
def dd_law : He.DefD := ⟨("law", none), "law", "law", defArgs s_law, defBody s_law, defScope s_law, [], []⟩
def fn : List He.DefD := ([dd_tens, dd_is_integer, dd_is_exponent, dd_Decimal___init__, dd_is_finite, dd_is_infinite, dd_is_nan, dd_is_signaling, dd_is_zero, dd_decimal_of] : List He.DefD) ++ ([dd_Rules___init__, dd_Rules_etiny, dd_Rules_etop, dd_finish_zero, dd_finish_parts, dd_finish, dd_nan_of, dd_with_sign_sums, dd_plus, dd_minus] : List He.DefD) ++ ([dd_absolute, dd_with_one, dd_outcome_of, dd_is_operation, dd_signal_of, dd_Context___init__, dd_Context_told, dd_check_between, dd_names_of, dd__law_well] : List He.DefD) ++ ([dd__law_draw, dd__law_one, dd__law_parts, dd__law_ways, dd__law_rules, dd__law_context, dd__law_zero_right, dd_law] : List He.DefD)
def fa : List He.Fa := ([.free "isinstance", .free "int", .free "bool", .glo "is_integer", .free "str", .str "INFINITY" "F", .str "QUIET" "n", .str "SIGNALING" "N", .glo "NoDecimal", .glo "is_exponent"] : List He.Fa) ++ ([.glo "is_finite", .glo "Decimal", .glo "NoOperand", .free "abs", .free "min", .free "max", .glo "finish_zero", .glo "count_digits", .glo "overflow", .glo "finish_cut"] : List He.Fa) ++ ([.glo "tens", .glo "is_infinite", .glo "is_nan", .glo "kept_digits", .glo "finish_parts", .free "len", .glo "is_signaling", .glo "is_zero", .glo "finish", .glo "nan_of"] : List He.Fa) ++ ([.glo "with_sign_sums", .glo "minus", .glo "plus", .glo "absolute", .glo "to_integral_exact", .glo "to_integral_value", .glo "normalize", .glo "number_class", .glo "is_normal", .glo "is_subnormal"] : List He.Fa) ++ ([.glo "next_plus", .glo "next_minus", .glo "logb", .glo "logical_invert", .glo "sqrt", .glo "exp", .glo "ln", .glo "log10", .glo "QUESTIONS", .glo "answer_to"] : List He.Fa) ++ ([.glo "COPIES", .glo "copy_of", .glo "with_sign_copies", .glo "SINGLE", .glo "with_one", .glo "fma", .glo "power_modulo", .glo "with_two", .glo "DOUBLE", .glo "INVALID"] : List He.Fa) ++ ([.glo "check_between", .int "MOST" 999999999999999999, .glo "ROUNDINGS", .glo "NoContext", .glo "names_of", .glo "Rules", .free "tuple", .glo "is_operation", .glo "NoName", .glo "outcome_of"] : List He.Fa) ++ ([.free "sorted", .glo "decimal_of", .glo "signal_of", .free "list", .free "all", .glo "ORDER", .glo "_law_draw", .glo "_law_one", .glo "_law_ways", .glo "Context"] : List He.Fa) ++ ([.glo "_law_parts", .glo "_law_well", .glo "_law_rules", .glo "_law_context", .free "range", .glo "_law_zero_right", .glo "law", .cls "Decimal", .noat "Decimal" "sign", .noat "Decimal" "coefficient"] : List He.Fa) ++ ([.noat "Decimal" "exponent", .cls "Rules", .noat "Rules" "prec", .noat "Rules" "rounding", .noat "Rules" "emin", .noat "Rules" "emax", .noat "Rules" "clamp", .cls "Context", .noat "Context" "trapped", .noat "Context" "raised"] : List He.Fa) ++ ([.noat "Context" "prec", .noat "Context" "rounding", .noat "Context" "emin", .noat "Context" "emax", .noat "Context" "capitals", .noat "Context" "clamp", .noat "Context" "rules", .mkr "Decimal", .mkr "Rules", .meth "Rules" "etiny"] : List He.Fa) ++ ([.meth "Rules" "etop", .mkr "Context", .meth "Context" "told"] : List He.Fa)
def ex_t_QUESTIONS : PySem.W.Frag → Bool := fun K => He.tupB K "QUESTIONS" (([He.Dv.str "is_finite", He.Dv.str "is_infinite", He.Dv.str "is_nan", He.Dv.str "is_qnan", He.Dv.str "is_snan", He.Dv.str "is_signed", He.Dv.str "is_zero", He.Dv.str "is_canonical"] : List He.Dv))
def ex_t_COPIES : PySem.W.Frag → Bool := fun K => He.tupB K "COPIES" (([He.Dv.str "copy_abs", He.Dv.str "copy_negate", He.Dv.str "canonical"] : List He.Dv))
def ex_t_SINGLE : PySem.W.Frag → Bool := fun K => He.tupB K "SINGLE" (([He.Dv.str "plus", He.Dv.str "absolute", He.Dv.str "minus", He.Dv.str "to_integral_exact", He.Dv.str "to_integral_value", He.Dv.str "normalize", He.Dv.str "number_class", He.Dv.str "is_normal", He.Dv.str "is_subnormal", He.Dv.str "next_plus"] : List He.Dv) ++ ([He.Dv.str "next_minus", He.Dv.str "logb", He.Dv.str "logical_invert", He.Dv.str "sqrt", He.Dv.str "exp", He.Dv.str "ln", He.Dv.str "log10"] : List He.Dv))
def ex_t_DOUBLE : PySem.W.Frag → Bool := fun K => He.tupB K "DOUBLE" (([He.Dv.str "add", He.Dv.str "subtract", He.Dv.str "multiply", He.Dv.str "divide", He.Dv.str "divide_int", He.Dv.str "remainder", He.Dv.str "divide_both", He.Dv.str "remainder_near", He.Dv.str "quantize", He.Dv.str "same_quantum"] : List He.Dv) ++ ([He.Dv.str "compare", He.Dv.str "compare_signal", He.Dv.str "compare_total", He.Dv.str "compare_total_mag", He.Dv.str "equal", He.Dv.str "less", He.Dv.str "at_most", He.Dv.str "maximum", He.Dv.str "minimum", He.Dv.str "max_mag"] : List He.Dv) ++ ([He.Dv.str "min_mag", He.Dv.str "next_toward", He.Dv.str "scaleb", He.Dv.str "shift", He.Dv.str "rotate", He.Dv.str "logical_and", He.Dv.str "logical_or", He.Dv.str "logical_xor", He.Dv.str "power"] : List He.Dv))
def ex_t_INVALID : PySem.W.Frag → Bool := fun K => He.tupB K "INVALID" (([He.Dv.str "InvalidOperation", He.Dv.str "ConversionSyntax", He.Dv.str "DivisionImpossible", He.Dv.str "DivisionUndefined"] : List He.Dv))
def ex_t_ROUNDINGS : PySem.W.Frag → Bool := fun K => He.tupB K "ROUNDINGS" (([He.Dv.str "up", He.Dv.str "down", He.Dv.str "ceiling", He.Dv.str "floor", He.Dv.str "half_up", He.Dv.str "half_down", He.Dv.str "half_even", He.Dv.str "05up"] : List He.Dv))
def ex_t_ORDER : PySem.W.Frag → Bool := fun K => He.tupB K "ORDER" (([He.Dv.str "InvalidOperation", He.Dv.str "DivisionByZero", He.Dv.str "Overflow", He.Dv.str "Underflow", He.Dv.str "Subnormal", He.Dv.str "Inexact", He.Dv.str "Rounded", He.Dv.str "Clamped"] : List He.Dv))
def ex_ow_Decimal : PySem.W.Frag → Bool := fun K => ownB K (He.ga K "Decimal")
def ex_ow_Rules : PySem.W.Frag → Bool := fun K => ownB K (He.ga K "Rules")
def ex_ow_Context : PySem.W.Frag → Bool := fun K => ownB K (He.ga K "Context")
def ex : List (PySem.W.Frag → Bool) := ([ex_t_QUESTIONS, ex_t_COPIES, ex_t_SINGLE, ex_t_DOUBLE, ex_t_INVALID, ex_t_ROUNDINGS, ex_t_ORDER, ex_ow_Decimal, ex_ow_Rules, ex_ow_Context] : List (PySem.W.Frag → Bool))
def loose : List PySem.Str := (["_wall", "__name__", "ORDER", "INVALID", "TenSignal", "Clamped", "DivisionByZero", "Inexact", "InvalidOperation", "Overflow"] : List PySem.Str) ++ (["Rounded", "Subnormal", "Underflow", "TenError", "NoOperand", "NoDecimal", "NoContext", "NoName", "raise_signal", "signal_of"] : List PySem.Str) ++ (["STEP", "GREAT_decimals", "INFINITY", "QUIET", "SIGNALING", "Decimal", "is_integer", "is_exponent", "is_finite", "is_infinite"] : List PySem.Str) ++ (["is_nan", "is_signaling", "is_zero", "decimal_of", "infinity", "plain_nan", "tens", "count_digits", "digits_of", "order_of"] : List PySem.Str) ++ (["side_of", "size_order", "Rules", "goes_up", "rounded_parts", "overflow", "finish_zero", "finish_cut", "finish_parts", "finish_endless"] : List PySem.Str) ++ (["kept_digits", "finish", "nan_of", "invalid", "sign_of_both", "INVALID_WORD", "as_decimal", "unsigned", "sided", "compare"] : List PySem.Str) ++ (["compare_signal", "rank", "total_size", "total_order", "compare_total", "compare_total_mag", "equal", "less", "at_most", "is_quiet"] : List PySem.Str) ++ (["picked", "size_by", "greater_of", "lesser_of", "greater_mag", "lesser_mag", "is_low", "is_subnormal", "is_normal", "number_class"] : List PySem.Str) ++ (["with_sign", "with_sign_copies", "answer_to", "copy_of", "greatest", "stepped", "neighbour", "next_plus", "next_minus", "moved_by"] : List PySem.Str) ++ (["next_toward", "logb", "is_step", "signed", "scaleb", "PLAIN_places", "placed", "quantize", "same_quantum", "to_integral_exact"] : List PySem.Str) ++ (["to_integral_value", "normalize", "GUARD", "DEEP", "GREAT_roots", "unity", "root_floor", "sqrt", "odd_sum", "ten_log"] : List PySem.Str) ++ (["log_bounds", "exp_sum", "exp_bounds", "told_digits", "far_told", "near_one", "floor_scaled", "exp", "log_size", "turned_bounds"] : List PySem.Str) ++ (["log_special", "ln", "log10", "MOST_DEGREE", "is_whole", "whole_of", "is_odd", "raised", "common", "split_by"] : List PySem.Str) ++ (["exact_root", "ratio_of", "exact_parts", "exact_told", "bounds_times", "power_finite", "power_of_one", "power_of_ends", "power", "modulo_power"] : List PySem.Str) ++ (["power_modulo", "PLAIN_quotients", "UNDEFINED", "IMPOSSIBLE", "BY_ZERO", "shared_divisor", "without_factor", "exact_quotient", "first_digits", "quotient_of"] : List PySem.Str) ++ (["by_zero", "divide", "whole_parts", "divide_int", "no_remainder", "remainder", "both_parts", "remainder_near", "last_digits", "without_last"] : List PySem.Str) ++ (["with_noughts", "early", "shift", "rotate", "bits_of", "joined", "combined", "both", "either", "unlike"] : List PySem.Str) ++ (["logical_and", "logical_or", "logical_xor", "logical_invert", "SPARE", "with_sign_sums", "plus", "minus", "absolute", "worth"] : List PySem.Str) ++ (["sum_parts", "added", "add", "subtract", "exact_product", "multiply", "fma", "QUESTIONS", "COPIES", "SINGLE"] : List PySem.Str) ++ (["DOUBLE", "is_operation", "outcome_of", "with_one", "with_two", "first_half", "second_half", "MOST", "ROUNDINGS", "Context"] : List PySem.Str) ++ (["check_between", "names_of", "_law_well", "_law_draw", "_law_one", "_law_ten", "_law_parts", "_law_ways", "_law_rules", "_law_context"] : List PySem.Str) ++ (["_law_zero_right"] : List PySem.Str)
def ads : List Addr := ([3, 22, 23, 147, 148, 149, 150, 165, 166, 167] : List Addr) ++ ([168, 169, 184, 185, 186, 187, 188, 203, 204, 205] : List Addr) ++ ([206, 207, 222, 223, 224, 225, 226, 241, 242, 255] : List Addr) ++ ([256, 262, 263, 269, 270, 276, 277, 278, 279, 280] : List Addr) ++ ([281, 282, 290, 291, 297, 298, 304, 305, 311, 312] : List Addr) ++ ([318, 319, 325, 326, 332, 333, 339, 340, 360, 361] : List Addr) ++ ([367, 368, 407, 408, 414, 415, 421, 422, 428, 429] : List Addr) ++ ([430, 431, 432, 433, 434, 456, 457, 463, 464, 470] : List Addr) ++ ([471, 477, 478, 491, 492, 498, 499, 503, 504, 671] : List Addr) ++ ([672, 678, 679, 685, 686, 692, 693, 699, 700, 706] : List Addr) ++ ([707, 734, 735, 741, 742, 762, 763, 811, 812, 818] : List Addr) ++ ([819, 825, 826, 846, 847, 916, 917, 944, 945, 951] : List Addr) ++ ([952, 1070, 1071, 1271, 1272, 1278, 1279, 1285, 1286, 1292] : List Addr) ++ ([1293, 1299, 1300, 1355, 1356, 1357, 1358, 1359, 1360, 1366] : List Addr) ++ ([1367, 1373, 1374, 1380, 1381, 1387, 1388, 1403, 1412, 1418] : List Addr) ++ ([1419, 1425, 1426, 1432, 1433, 1439, 1440, 1446, 1447, 1453] : List Addr) ++ ([1454, 1460, 1461, 1467, 1468, 1474, 1475, 1481, 1482, 1486] : List Addr) ++ ([1487, 1491, 1492, 1496, 1497, 1503, 1504, 1510, 1511, 1517] : List Addr) ++ ([1518, 1524, 1525, 1531, 1532, 1538, 1539, 1545, 1546, 1547] : List Addr) ++ ([1553, 1554, 1560, 1561, 1567, 1568, 1574, 1575, 1581, 1582] : List Addr) ++ ([1588, 1589, 1595, 1596, 1602, 1603, 1609, 1610, 1616, 1617] : List Addr) ++ ([1623, 1624, 1630, 1631, 1637, 1638, 1644, 1645, 1651, 1652] : List Addr) ++ ([1658, 1659, 1665, 1666, 1672, 1673, 1679, 1680, 1686, 1687] : List Addr) ++ ([1693, 1694, 1700, 1701, 1707, 1708, 1714, 1715, 1721, 1722] : List Addr) ++ ([1728, 1729, 1735, 1736, 1742, 1743, 1749, 1750, 1756, 1757] : List Addr) ++ ([1763, 1764, 1770, 1771, 1777, 1778, 1784, 1785, 1791, 1792] : List Addr) ++ ([1798, 1799, 1805, 1806, 1812, 1813, 1819, 1820, 1826, 1827] : List Addr) ++ ([1833, 1834, 1840, 1841, 1847, 1848, 1854, 1855, 1861, 1862] : List Addr) ++ ([1868, 1869, 1875, 1876, 1882, 1883, 1889, 1890, 1896, 1897] : List Addr) ++ ([1903, 1904, 1910, 1911, 1917, 1918, 1924, 1925, 1931, 1932] : List Addr) ++ ([1938, 1939, 1945, 1946, 1952, 1953, 1954, 1955, 1956, 1957] : List Addr) ++ ([1958, 1966, 1967, 1971, 1972, 1978, 1979, 1985, 1986, 1992] : List Addr) ++ ([1993, 2006, 2007, 2013, 2014, 2020, 2021, 2027, 2028, 2034] : List Addr) ++ ([2035, 2039, 2040] : List Addr)
def Kx (P : Params) : PySem.W.Frag := ([(3, o_227_3 P), (22, o_11_22 P), (23, o_11_23 P), (147, o_18_147 P), (148, o_18_148 P), (149, o_18_149 P), (150, o_18_150 P), (165, o_18_165 P), (166, o_18_166 P), (167, o_18_167 P)] : List (Addr × Obj)) ++ ([(168, o_18_168 P), (169, o_18_169 P), (184, o_18_184 P), (185, o_18_185 P), (186, o_18_186 P), (187, o_18_187 P), (188, o_18_188 P), (203, o_18_203 P), (204, o_18_204 P), (205, o_18_205 P)] : List (Addr × Obj)) ++ ([(206, o_18_206 P), (207, o_18_207 P), (222, o_18_222 P), (223, o_18_223 P), (224, o_18_224 P), (225, o_18_225 P), (226, o_18_226 P), (241, o_53_241 P), (242, o_53_242 P), (255, o_53_255 P)] : List (Addr × Obj)) ++ ([(256, o_53_256 P), (262, o_53_262 P), (263, o_53_263 P), (269, o_53_269 P), (270, o_53_270 P), (276, o_53_276 P), (277, o_53_277 P), (278, o_53_278 P), (279, o_53_279 P), (280, o_53_280 P)] : List (Addr × Obj)) ++ ([(281, o_53_281 P), (282, o_53_282 P), (290, o_53_290 P), (291, o_53_291 P), (297, o_53_297 P), (298, o_53_298 P), (304, o_53_304 P), (305, o_53_305 P), (311, o_53_311 P), (312, o_53_312 P)] : List (Addr × Obj)) ++ ([(318, o_53_318 P), (319, o_53_319 P), (325, o_53_325 P), (326, o_53_326 P), (332, o_53_332 P), (333, o_53_333 P), (339, o_53_339 P), (340, o_53_340 P), (360, o_53_360 P), (361, o_53_361 P)] : List (Addr × Obj)) ++ ([(367, o_53_367 P), (368, o_53_368 P), (407, o_53_407 P), (408, o_53_408 P), (414, o_53_414 P), (415, o_53_415 P), (421, o_53_421 P), (422, o_53_422 P), (428, o_53_428 P), (429, o_53_429 P)] : List (Addr × Obj)) ++ ([(430, o_53_430 P), (431, o_53_431 P), (432, o_53_432 P), (433, o_53_433 P), (434, o_53_434 P), (456, o_53_456 P), (457, o_53_457 P), (463, o_53_463 P), (464, o_53_464 P), (470, o_53_470 P)] : List (Addr × Obj)) ++ ([(471, o_53_471 P), (477, o_53_477 P), (478, o_53_478 P), (491, o_53_491 P), (492, o_53_492 P), (498, o_107_498 P), (499, o_107_499 P), (503, o_107_503 P), (504, o_107_504 P), (671, o_107_671 P)] : List (Addr × Obj)) ++ ([(672, o_107_672 P), (678, o_107_678 P), (679, o_107_679 P), (685, o_107_685 P), (686, o_107_686 P), (692, o_107_692 P), (693, o_107_693 P), (699, o_107_699 P), (700, o_107_700 P), (706, o_107_706 P)] : List (Addr × Obj)) ++ ([(707, o_107_707 P), (734, o_107_734 P), (735, o_107_735 P), (741, o_107_741 P), (742, o_107_742 P), (762, o_107_762 P), (763, o_107_763 P), (811, o_107_811 P), (812, o_107_812 P), (818, o_107_818 P)] : List (Addr × Obj)) ++ ([(819, o_107_819 P), (825, o_161_825 P), (826, o_161_826 P), (846, o_161_846 P), (847, o_161_847 P), (916, o_161_916 P), (917, o_161_917 P), (944, o_161_944 P), (945, o_161_945 P), (951, o_161_951 P)] : List (Addr × Obj)) ++ ([(952, o_161_952 P), (1070, o_161_1070 P), (1071, o_161_1071 P), (1271, o_213_1271 P), (1272, o_213_1272 P), (1278, o_213_1278 P), (1279, o_213_1279 P), (1285, o_213_1285 P), (1286, o_213_1286 P), (1292, o_213_1292 P)] : List (Addr × Obj)) ++ ([(1293, o_213_1293 P), (1299, o_213_1299 P), (1300, o_213_1300 P), (1355, o_213_1355 P), (1356, o_213_1356 P), (1357, o_213_1357 P), (1358, o_213_1358 P), (1359, o_213_1359 P), (1360, o_213_1360 P), (1366, o_213_1366 P)] : List (Addr × Obj)) ++ ([(1367, o_213_1367 P), (1373, o_213_1373 P), (1374, o_213_1374 P), (1380, o_213_1380 P), (1381, o_213_1381 P), (1387, o_213_1387 P), (1388, o_213_1388 P), (1403, o_213_1403 P), (1412, o_214_1412 P), (1418, o_214_1418 P)] : List (Addr × Obj)) ++ ([(1419, o_214_1419 P), (1425, o_214_1425 P), (1426, o_214_1426 P), (1432, o_214_1432 P), (1433, o_214_1433 P), (1439, o_214_1439 P), (1440, o_214_1440 P), (1446, o_214_1446 P), (1447, o_214_1447 P), (1453, o_214_1453 P)] : List (Addr × Obj)) ++ ([(1454, o_214_1454 P), (1460, o_214_1460 P), (1461, o_214_1461 P), (1467, o_214_1467 P), (1468, o_214_1468 P), (1474, o_214_1474 P), (1475, o_214_1475 P), (1481, o_214_1481 P), (1482, o_214_1482 P), (1486, o_214_1486 P)] : List (Addr × Obj)) ++ ([(1487, o_214_1487 P), (1491, o_214_1491 P), (1492, o_214_1492 P), (1496, o_214_1496 P), (1497, o_214_1497 P), (1503, o_214_1503 P), (1504, o_214_1504 P), (1510, o_214_1510 P), (1511, o_214_1511 P), (1517, o_214_1517 P)] : List (Addr × Obj)) ++ ([(1518, o_214_1518 P), (1524, o_214_1524 P), (1525, o_214_1525 P), (1531, o_214_1531 P), (1532, o_214_1532 P), (1538, o_214_1538 P), (1539, o_214_1539 P), (1545, o_214_1545 P), (1546, o_214_1546 P), (1547, o_214_1547 P)] : List (Addr × Obj)) ++ ([(1553, o_214_1553 P), (1554, o_214_1554 P), (1560, o_214_1560 P), (1561, o_214_1561 P), (1567, o_214_1567 P), (1568, o_214_1568 P), (1574, o_214_1574 P), (1575, o_214_1575 P), (1581, o_214_1581 P), (1582, o_214_1582 P)] : List (Addr × Obj)) ++ ([(1588, o_214_1588 P), (1589, o_214_1589 P), (1595, o_214_1595 P), (1596, o_214_1596 P), (1602, o_214_1602 P), (1603, o_214_1603 P), (1609, o_214_1609 P), (1610, o_214_1610 P), (1616, o_214_1616 P), (1617, o_214_1617 P)] : List (Addr × Obj)) ++ ([(1623, o_214_1623 P), (1624, o_214_1624 P), (1630, o_214_1630 P), (1631, o_214_1631 P), (1637, o_214_1637 P), (1638, o_214_1638 P), (1644, o_214_1644 P), (1645, o_214_1645 P), (1651, o_214_1651 P), (1652, o_214_1652 P)] : List (Addr × Obj)) ++ ([(1658, o_214_1658 P), (1659, o_214_1659 P), (1665, o_214_1665 P), (1666, o_214_1666 P), (1672, o_214_1672 P), (1673, o_214_1673 P), (1679, o_214_1679 P), (1680, o_214_1680 P), (1686, o_214_1686 P), (1687, o_214_1687 P)] : List (Addr × Obj)) ++ ([(1693, o_214_1693 P), (1694, o_214_1694 P), (1700, o_214_1700 P), (1701, o_214_1701 P), (1707, o_214_1707 P), (1708, o_214_1708 P), (1714, o_214_1714 P), (1715, o_214_1715 P), (1721, o_214_1721 P), (1722, o_214_1722 P)] : List (Addr × Obj)) ++ ([(1728, o_214_1728 P), (1729, o_214_1729 P), (1735, o_214_1735 P), (1736, o_214_1736 P), (1742, o_214_1742 P), (1743, o_214_1743 P), (1749, o_214_1749 P), (1750, o_214_1750 P), (1756, o_214_1756 P), (1757, o_214_1757 P)] : List (Addr × Obj)) ++ ([(1763, o_214_1763 P), (1764, o_214_1764 P), (1770, o_214_1770 P), (1771, o_214_1771 P), (1777, o_214_1777 P), (1778, o_214_1778 P), (1784, o_214_1784 P), (1785, o_214_1785 P), (1791, o_214_1791 P), (1792, o_214_1792 P)] : List (Addr × Obj)) ++ ([(1798, o_214_1798 P), (1799, o_214_1799 P), (1805, o_214_1805 P), (1806, o_214_1806 P), (1812, o_214_1812 P), (1813, o_214_1813 P), (1819, o_214_1819 P), (1820, o_214_1820 P), (1826, o_214_1826 P), (1827, o_214_1827 P)] : List (Addr × Obj)) ++ ([(1833, o_214_1833 P), (1834, o_214_1834 P), (1840, o_214_1840 P), (1841, o_214_1841 P), (1847, o_214_1847 P), (1848, o_214_1848 P), (1854, o_214_1854 P), (1855, o_214_1855 P), (1861, o_214_1861 P), (1862, o_214_1862 P)] : List (Addr × Obj)) ++ ([(1868, o_214_1868 P), (1869, o_214_1869 P), (1875, o_214_1875 P), (1876, o_214_1876 P), (1882, o_214_1882 P), (1883, o_214_1883 P), (1889, o_214_1889 P), (1890, o_214_1890 P), (1896, o_214_1896 P), (1897, o_214_1897 P)] : List (Addr × Obj)) ++ ([(1903, o_214_1903 P), (1904, o_214_1904 P), (1910, o_214_1910 P), (1911, o_214_1911 P), (1917, o_214_1917 P), (1918, o_214_1918 P), (1924, o_214_1924 P), (1925, o_214_1925 P), (1931, o_214_1931 P), (1932, o_214_1932 P)] : List (Addr × Obj)) ++ ([(1938, o_214_1938 P), (1939, o_214_1939 P), (1945, o_214_1945 P), (1946, o_214_1946 P), (1952, o_214_1952 P), (1953, o_214_1953 P), (1954, o_214_1954 P), (1955, o_214_1955 P), (1956, o_214_1956 P), (1957, o_214_1957 P)] : List (Addr × Obj)) ++ ([(1958, o_214_1958 P), (1966, o_227_1966 P), (1967, o_227_1967 P), (1971, o_227_1971 P), (1972, o_227_1972 P), (1978, o_227_1978 P), (1979, o_227_1979 P), (1985, o_227_1985 P), (1986, o_227_1986 P), (1992, o_227_1992 P)] : List (Addr × Obj)) ++ ([(1993, o_227_1993 P), (2006, o_227_2006 P), (2007, o_227_2007 P), (2013, o_227_2013 P), (2014, o_227_2014 P), (2020, o_227_2020 P), (2021, o_227_2021 P), (2027, o_227_2027 P), (2028, o_227_2028 P), (2034, o_227_2034 P)] : List (Addr × Obj)) ++ ([(2035, o_227_2035 P), (2039, o_227_2039 P), (2040, o_227_2040 P)] : List (Addr × Obj))
abbrev tcx : PySem.TablesWhole.Ctx := ⟨pr.main.scope, [], [], [], none⟩
def b_0 : List Stmt := (pr.main.body.drop 0).take 45
theorem tb_0 : PySem.TablesWhole.wSs PySem.TablesWhole.holds pr.main.scope tcx pr.main.scope b_0 = true := by kernel_rfl
def b_45 : List Stmt := (pr.main.body.drop 45).take 45
theorem tb_45 : PySem.TablesWhole.wSs PySem.TablesWhole.holds pr.main.scope tcx pr.main.scope b_45 = true := by kernel_rfl
def b_90 : List Stmt := (pr.main.body.drop 90).take 45
theorem tb_90 : PySem.TablesWhole.wSs PySem.TablesWhole.holds pr.main.scope tcx pr.main.scope b_90 = true := by kernel_rfl
def b_135 : List Stmt := (pr.main.body.drop 135).take 45
theorem tb_135 : PySem.TablesWhole.wSs PySem.TablesWhole.holds pr.main.scope tcx pr.main.scope b_135 = true := by kernel_rfl
def b_180 : List Stmt := (pr.main.body.drop 180).take 33
theorem tb_180 : PySem.TablesWhole.wSs PySem.TablesWhole.holds pr.main.scope tcx pr.main.scope b_180 = true := by kernel_rfl
def b_213 : List Stmt := (pr.main.body.drop 213).take 1
theorem tb_213 : PySem.TablesWhole.wSs PySem.TablesWhole.holds pr.main.scope tcx pr.main.scope b_213 = true := by kernel_rfl
def b_214 : List Stmt := (pr.main.body.drop 214).take 11
theorem tb_214 : PySem.TablesWhole.wSs PySem.TablesWhole.holds pr.main.scope tcx pr.main.scope b_214 = true := by kernel_rfl
def b_225 : List Stmt := (pr.main.body.drop 225).take 2
theorem tb_225 : PySem.TablesWhole.wSs PySem.TablesWhole.holds pr.main.scope tcx pr.main.scope b_225 = true := by kernel_rfl
theorem tb_no : PySem.TablesWhole.noTwice pr.main.scope = true := by kernel_rfl
theorem tb_told : PySem.TablesWhole.wSs PySem.TablesWhole.gather pr.main.scope tcx pr.main.scope pr.main.body = [] := by kernel_rfl
theorem tb_cat : pr.main.body = b_0 ++ (b_45 ++ (b_90 ++ (b_135 ++ (b_180 ++ (b_213 ++ (b_214 ++ (b_225))))))) := by kernel_rfl
theorem tb_all : PySem.TablesWhole.wSs PySem.TablesWhole.holds pr.main.scope tcx pr.main.scope pr.main.body = true := by
  rw [tb_cat]
  simp only [Tb.wSs_app, tb_0, tb_45, tb_90, tb_135, tb_180, tb_213, tb_214, tb_225, Bool.and_self]
theorem bare_ok : pr.bare := ⟨rfl, rfl, rfl, rfl, rfl, Tb.tw_of tb_no tb_told tb_all rfl rfl rfl⟩
theorem kx (w : World) (os : OsState) : He.frG (getT (S_227 w os)) ads = Kx w.params := by kernel_rfl
theorem kf (P : Params) : He.obsD fa fn (Kx P) = He.valD fn := by kernel_rfl
theorem ke (P : Params) : (ex.all fun f => f (Kx P)) = true := by kernel_rfl
abbrev R : PySem.W.OpenRow := PySem.W.OpenLaw.row PySem.Challenge.rw_tenwhole_k14_zeros_finished
abbrev hk : PySem.W.Hook := hookX ads fa fn ex
theorem looks (w : World) (os : OsState) : looksF R.prog (boot_heap w.params) (S_227 w os).abs = true := by kernel_rfl
theorem seen (w : World) (os : OsState) : openSeen (PySem.W.view R.prog [226]) loose (importedModules R.prog.main.body) (fun s => xlAt (PySem.W.view R.prog [226]) [] s && recOk R.toRowW.records s) true (S_227 w os).abs = openGood (PySem.W.view R.prog [226]) loose := by
  rw [seenQ_eq]
  kernel_rfl
theorem size_eq (w : World) : (boot_heap w.params).objs.size = 11 := by kernel_rfl
theorem ann_eq (w : World) : bootAnn w = an := by kernel_rfl
theorem run (w : World) (os : OsState) : ∃ s : Shared, topRun treeTable R.prog w (boot_heap w.params).objs.size (bootAnn w) total ⟨boot_heap w.params, #[], boot_drawn, boot_toks, os⟩ (topStub R.prog) = some s ∧
    looksF R.prog (boot_heap w.params) s = true ∧ openSeen (PySem.W.view R.prog [226]) loose (importedModules R.prog.main.body) (fun s => xlAt (PySem.W.view R.prog [226]) [] s && recOk R.toRowW.records s) true s = openGood (PySem.W.view R.prog [226]) loose ∧ hk.obs s = hk.val w :=
  ⟨(S_227 w os).abs, by rw [size_eq, ann_eq]; exact top_run w os, looks w os, seen w os, hookX_obs (kx w os) (kf w.params) (ke w.params)⟩
theorem tx_of {K : PySem.W.Frag} {h : Heap} {mg : Str → Option Value} (X : K.In h) (G : h.Ns mainGlobals mg) (c : He.SaysD fa fn K) (e : (ex.all fun f => f K) = true) : Tx K mg where
  n_isinstance := He.free_ok X G (c.fact 0 (f := .free "isinstance") rfl)
  n_int := He.free_ok X G (c.fact 1 (f := .free "int") rfl)
  n_bool := He.free_ok X G (c.fact 2 (f := .free "bool") rfl)
  g_is_integer := He.glo_ok X G (c.fact 3 (f := .glo "is_integer") rfl)
  n_str := He.free_ok X G (c.fact 4 (f := .free "str") rfl)
  c_INFINITY := He.str_ok X G (c.fact 5 (f := .str "INFINITY" "F") rfl)
  c_QUIET := He.str_ok X G (c.fact 6 (f := .str "QUIET" "n") rfl)
  c_SIGNALING := He.str_ok X G (c.fact 7 (f := .str "SIGNALING" "N") rfl)
  g_NoDecimal := He.glo_ok X G (c.fact 8 (f := .glo "NoDecimal") rfl)
  g_is_exponent := He.glo_ok X G (c.fact 9 (f := .glo "is_exponent") rfl)
  g_is_finite := He.glo_ok X G (c.fact 10 (f := .glo "is_finite") rfl)
  g_Decimal := He.glo_ok X G (c.fact 11 (f := .glo "Decimal") rfl)
  g_NoOperand := He.glo_ok X G (c.fact 12 (f := .glo "NoOperand") rfl)
  n_abs := He.free_ok X G (c.fact 13 (f := .free "abs") rfl)
  n_min := He.free_ok X G (c.fact 14 (f := .free "min") rfl)
  n_max := He.free_ok X G (c.fact 15 (f := .free "max") rfl)
  g_finish_zero := He.glo_ok X G (c.fact 16 (f := .glo "finish_zero") rfl)
  g_count_digits := He.glo_ok X G (c.fact 17 (f := .glo "count_digits") rfl)
  g_overflow := He.glo_ok X G (c.fact 18 (f := .glo "overflow") rfl)
  g_finish_cut := He.glo_ok X G (c.fact 19 (f := .glo "finish_cut") rfl)
  g_tens := He.glo_ok X G (c.fact 20 (f := .glo "tens") rfl)
  g_is_infinite := He.glo_ok X G (c.fact 21 (f := .glo "is_infinite") rfl)
  g_is_nan := He.glo_ok X G (c.fact 22 (f := .glo "is_nan") rfl)
  g_kept_digits := He.glo_ok X G (c.fact 23 (f := .glo "kept_digits") rfl)
  g_finish_parts := He.glo_ok X G (c.fact 24 (f := .glo "finish_parts") rfl)
  n_len := He.free_ok X G (c.fact 25 (f := .free "len") rfl)
  g_is_signaling := He.glo_ok X G (c.fact 26 (f := .glo "is_signaling") rfl)
  g_is_zero := He.glo_ok X G (c.fact 27 (f := .glo "is_zero") rfl)
  g_finish := He.glo_ok X G (c.fact 28 (f := .glo "finish") rfl)
  g_nan_of := He.glo_ok X G (c.fact 29 (f := .glo "nan_of") rfl)
  g_with_sign_sums := He.glo_ok X G (c.fact 30 (f := .glo "with_sign_sums") rfl)
  g_minus := He.glo_ok X G (c.fact 31 (f := .glo "minus") rfl)
  g_plus := He.glo_ok X G (c.fact 32 (f := .glo "plus") rfl)
  g_absolute := He.glo_ok X G (c.fact 33 (f := .glo "absolute") rfl)
  g_to_integral_exact := He.glo_ok X G (c.fact 34 (f := .glo "to_integral_exact") rfl)
  g_to_integral_value := He.glo_ok X G (c.fact 35 (f := .glo "to_integral_value") rfl)
  g_normalize := He.glo_ok X G (c.fact 36 (f := .glo "normalize") rfl)
  g_number_class := He.glo_ok X G (c.fact 37 (f := .glo "number_class") rfl)
  g_is_normal := He.glo_ok X G (c.fact 38 (f := .glo "is_normal") rfl)
  g_is_subnormal := He.glo_ok X G (c.fact 39 (f := .glo "is_subnormal") rfl)
  g_next_plus := He.glo_ok X G (c.fact 40 (f := .glo "next_plus") rfl)
  g_next_minus := He.glo_ok X G (c.fact 41 (f := .glo "next_minus") rfl)
  g_logb := He.glo_ok X G (c.fact 42 (f := .glo "logb") rfl)
  g_logical_invert := He.glo_ok X G (c.fact 43 (f := .glo "logical_invert") rfl)
  g_sqrt := He.glo_ok X G (c.fact 44 (f := .glo "sqrt") rfl)
  g_exp := He.glo_ok X G (c.fact 45 (f := .glo "exp") rfl)
  g_ln := He.glo_ok X G (c.fact 46 (f := .glo "ln") rfl)
  g_log10 := He.glo_ok X G (c.fact 47 (f := .glo "log10") rfl)
  g_QUESTIONS := He.glo_ok X G (c.fact 48 (f := .glo "QUESTIONS") rfl)
  g_answer_to := He.glo_ok X G (c.fact 49 (f := .glo "answer_to") rfl)
  g_COPIES := He.glo_ok X G (c.fact 50 (f := .glo "COPIES") rfl)
  g_copy_of := He.glo_ok X G (c.fact 51 (f := .glo "copy_of") rfl)
  g_with_sign_copies := He.glo_ok X G (c.fact 52 (f := .glo "with_sign_copies") rfl)
  g_SINGLE := He.glo_ok X G (c.fact 53 (f := .glo "SINGLE") rfl)
  g_with_one := He.glo_ok X G (c.fact 54 (f := .glo "with_one") rfl)
  g_fma := He.glo_ok X G (c.fact 55 (f := .glo "fma") rfl)
  g_power_modulo := He.glo_ok X G (c.fact 56 (f := .glo "power_modulo") rfl)
  g_with_two := He.glo_ok X G (c.fact 57 (f := .glo "with_two") rfl)
  g_DOUBLE := He.glo_ok X G (c.fact 58 (f := .glo "DOUBLE") rfl)
  g_INVALID := He.glo_ok X G (c.fact 59 (f := .glo "INVALID") rfl)
  g_check_between := He.glo_ok X G (c.fact 60 (f := .glo "check_between") rfl)
  c_MOST := He.int_ok X G (c.fact 61 (f := .int "MOST" 999999999999999999) rfl)
  g_ROUNDINGS := He.glo_ok X G (c.fact 62 (f := .glo "ROUNDINGS") rfl)
  g_NoContext := He.glo_ok X G (c.fact 63 (f := .glo "NoContext") rfl)
  g_names_of := He.glo_ok X G (c.fact 64 (f := .glo "names_of") rfl)
  g_Rules := He.glo_ok X G (c.fact 65 (f := .glo "Rules") rfl)
  n_tuple := He.free_ok X G (c.fact 66 (f := .free "tuple") rfl)
  g_is_operation := He.glo_ok X G (c.fact 67 (f := .glo "is_operation") rfl)
  g_NoName := He.glo_ok X G (c.fact 68 (f := .glo "NoName") rfl)
  g_outcome_of := He.glo_ok X G (c.fact 69 (f := .glo "outcome_of") rfl)
  n_sorted := He.free_ok X G (c.fact 70 (f := .free "sorted") rfl)
  g_decimal_of := He.glo_ok X G (c.fact 71 (f := .glo "decimal_of") rfl)
  g_signal_of := He.glo_ok X G (c.fact 72 (f := .glo "signal_of") rfl)
  n_list := He.free_ok X G (c.fact 73 (f := .free "list") rfl)
  n_all := He.free_ok X G (c.fact 74 (f := .free "all") rfl)
  g_ORDER := He.glo_ok X G (c.fact 75 (f := .glo "ORDER") rfl)
  g__law_draw := He.glo_ok X G (c.fact 76 (f := .glo "_law_draw") rfl)
  g__law_one := He.glo_ok X G (c.fact 77 (f := .glo "_law_one") rfl)
  g__law_ways := He.glo_ok X G (c.fact 78 (f := .glo "_law_ways") rfl)
  g_Context := He.glo_ok X G (c.fact 79 (f := .glo "Context") rfl)
  g__law_parts := He.glo_ok X G (c.fact 80 (f := .glo "_law_parts") rfl)
  g__law_well := He.glo_ok X G (c.fact 81 (f := .glo "_law_well") rfl)
  g__law_rules := He.glo_ok X G (c.fact 82 (f := .glo "_law_rules") rfl)
  g__law_context := He.glo_ok X G (c.fact 83 (f := .glo "_law_context") rfl)
  n_range := He.free_ok X G (c.fact 84 (f := .free "range") rfl)
  g__law_zero_right := He.glo_ok X G (c.fact 85 (f := .glo "_law_zero_right") rfl)
  g_law := He.glo_ok X G (c.fact 86 (f := .glo "law") rfl)
  cl_Decimal := He.cls_ok (c.fact 87 (f := .cls "Decimal") rfl)
  no_Decimal_sign := He.noat_ok (c.fact 88 (f := .noat "Decimal" "sign") rfl)
  no_Decimal_coefficient := He.noat_ok (c.fact 89 (f := .noat "Decimal" "coefficient") rfl)
  no_Decimal_exponent := He.noat_ok (c.fact 90 (f := .noat "Decimal" "exponent") rfl)
  cl_Rules := He.cls_ok (c.fact 91 (f := .cls "Rules") rfl)
  no_Rules_prec := He.noat_ok (c.fact 92 (f := .noat "Rules" "prec") rfl)
  no_Rules_rounding := He.noat_ok (c.fact 93 (f := .noat "Rules" "rounding") rfl)
  no_Rules_emin := He.noat_ok (c.fact 94 (f := .noat "Rules" "emin") rfl)
  no_Rules_emax := He.noat_ok (c.fact 95 (f := .noat "Rules" "emax") rfl)
  no_Rules_clamp := He.noat_ok (c.fact 96 (f := .noat "Rules" "clamp") rfl)
  cl_Context := He.cls_ok (c.fact 97 (f := .cls "Context") rfl)
  no_Context_trapped := He.noat_ok (c.fact 98 (f := .noat "Context" "trapped") rfl)
  no_Context_raised := He.noat_ok (c.fact 99 (f := .noat "Context" "raised") rfl)
  no_Context_prec := He.noat_ok (c.fact 100 (f := .noat "Context" "prec") rfl)
  no_Context_rounding := He.noat_ok (c.fact 101 (f := .noat "Context" "rounding") rfl)
  no_Context_emin := He.noat_ok (c.fact 102 (f := .noat "Context" "emin") rfl)
  no_Context_emax := He.noat_ok (c.fact 103 (f := .noat "Context" "emax") rfl)
  no_Context_capitals := He.noat_ok (c.fact 104 (f := .noat "Context" "capitals") rfl)
  no_Context_clamp := He.noat_ok (c.fact 105 (f := .noat "Context" "clamp") rfl)
  no_Context_rules := He.noat_ok (c.fact 106 (f := .noat "Context" "rules") rfl)
  m_Decimal := He.mkr_ok (c.fact 107 (f := .mkr "Decimal") rfl)
  m_Rules := He.mkr_ok (c.fact 108 (f := .mkr "Rules") rfl)
  me_Rules_etiny := He.meth_ok (c.fact 109 (f := .meth "Rules" "etiny") rfl)
  me_Rules_etop := He.meth_ok (c.fact 110 (f := .meth "Rules" "etop") rfl)
  m_Context := He.mkr_ok (c.fact 111 (f := .mkr "Context") rfl)
  me_Context_told := He.meth_ok (c.fact 112 (f := .meth "Context" "told") rfl)
  t_QUESTIONS := fun H => He.tupB_ok (ex_at e 0 (f := ex_t_QUESTIONS) rfl) H
  t_COPIES := fun H => He.tupB_ok (ex_at e 1 (f := ex_t_COPIES) rfl) H
  t_SINGLE := fun H => He.tupB_ok (ex_at e 2 (f := ex_t_SINGLE) rfl) H
  t_DOUBLE := fun H => He.tupB_ok (ex_at e 3 (f := ex_t_DOUBLE) rfl) H
  t_INVALID := fun H => He.tupB_ok (ex_at e 4 (f := ex_t_INVALID) rfl) H
  t_ROUNDINGS := fun H => He.tupB_ok (ex_at e 5 (f := ex_t_ROUNDINGS) rfl) H
  t_ORDER := fun H => He.tupB_ok (ex_at e 6 (f := ex_t_ORDER) rfl) H
  ow_Decimal := ownB_ok (ex_at e 7 (f := ex_ow_Decimal) rfl)
  ow_Rules := ownB_ok (ex_at e 8 (f := ex_ow_Rules) rfl)
  ow_Context := ownB_ok (ex_at e 9 (f := ex_ow_Context) rfl)
  d_tens := c.def_ 0 (d := dd_tens) rfl
  d_is_integer := c.def_ 1 (d := dd_is_integer) rfl
  d_is_exponent := c.def_ 2 (d := dd_is_exponent) rfl
  d_Decimal___init__ := c.def_ 3 (d := dd_Decimal___init__) rfl
  d_is_finite := c.def_ 4 (d := dd_is_finite) rfl
  d_is_infinite := c.def_ 5 (d := dd_is_infinite) rfl
  d_is_nan := c.def_ 6 (d := dd_is_nan) rfl
  d_is_signaling := c.def_ 7 (d := dd_is_signaling) rfl
  d_is_zero := c.def_ 8 (d := dd_is_zero) rfl
  d_decimal_of := c.def_ 9 (d := dd_decimal_of) rfl
  d_Rules___init__ := c.def_ 10 (d := dd_Rules___init__) rfl
  d_Rules_etiny := c.def_ 11 (d := dd_Rules_etiny) rfl
  d_Rules_etop := c.def_ 12 (d := dd_Rules_etop) rfl
  d_finish_zero := c.def_ 13 (d := dd_finish_zero) rfl
  d_finish_parts := c.def_ 14 (d := dd_finish_parts) rfl
  d_finish := c.def_ 15 (d := dd_finish) rfl
  d_nan_of := c.def_ 16 (d := dd_nan_of) rfl
  d_with_sign_sums := c.def_ 17 (d := dd_with_sign_sums) rfl
  d_plus := c.def_ 18 (d := dd_plus) rfl
  d_minus := c.def_ 19 (d := dd_minus) rfl
  d_absolute := c.def_ 20 (d := dd_absolute) rfl
  d_with_one := c.def_ 21 (d := dd_with_one) rfl
  d_outcome_of := c.def_ 22 (d := dd_outcome_of) rfl
  d_is_operation := c.def_ 23 (d := dd_is_operation) rfl
  d_signal_of := c.def_ 24 (d := dd_signal_of) rfl
  d_Context___init__ := c.def_ 25 (d := dd_Context___init__) rfl
  d_Context_told := c.def_ 26 (d := dd_Context_told) rfl
  d_check_between := c.def_ 27 (d := dd_check_between) rfl
  d_names_of := c.def_ 28 (d := dd_names_of) rfl
  d__law_well := c.def_ 29 (d := dd__law_well) rfl
  d__law_draw := c.def_ 30 (d := dd__law_draw) rfl
  d__law_one := c.def_ 31 (d := dd__law_one) rfl
  d__law_parts := c.def_ 32 (d := dd__law_parts) rfl
  d__law_ways := c.def_ 33 (d := dd__law_ways) rfl
  d__law_rules := c.def_ 34 (d := dd__law_rules) rfl
  d__law_context := c.def_ 35 (d := dd__law_context) rfl
  d__law_zero_right := c.def_ 36 (d := dd__law_zero_right) rfl
  d_law := c.def_ 37 (d := dd_law) rfl
theorem facts {P : Program} {w : World} {K : PySem.W.Frag} {h : Heap} {mg : Str → Option Value} {f : Addr} (X : K.In h) (G : h.Ns mainGlobals mg) (hfa : mg ("law" : Str) = some (.ref f)) (c : He.SaysD fa fn K) (e : (ex.all fun f => f K) = true) :
    ∃ fd : FuncData, (∀ (s : Shared) (v : Value), BindsTo s fd ⟨[v], []⟩ [("_law_script", v)]) ∧ ∀ base : Heap, K.In base → base.Ns mainGlobals mg → FnOk P w K mg base CX0 18 f fd ["_law_script"] (sp_law K) := by
  have T := tx_of X G c e
  obtain ⟨fd, F⟩ := T.d_law
  have e2 := hfa.symm.trans T.g_law
  cases e2
  have b := FunD.bindsA (ps := ["_law_script"]) F fun _ _ _ _ _ _ us hl => match us, hl with | [_], _ => rfl
  refine ⟨fd, fun s v => b s [v] rfl, fun base _ _ => ?_⟩
  exact ok_law (P := P) (w := w) (base := base) T F
end Ht
end

open PySem PySem.W PySem.Calls PyProof.Rows
theorem PySem.Challenge.cw_tenwhole_k14_zeros_finished_holds : PySem.Challenge.rw_tenwhole_k14_zeros_finished.Holds := by
  w_on; o_law
  refine Hc.head_cut (r := OpenLaw.row PySem.Challenge.rw_tenwhole_k14_zeros_finished) (q := view (OpenLaw.row PySem.Challenge.rw_tenwhole_k14_zeros_finished).prog [226]) (H := Ht.hk) (M := Ht.total) (loose := Ht.loose) (d := HandSHeadRun.topDef (OpenLaw.row PySem.Challenge.rw_tenwhole_k14_zeros_finished).prog 226) (kwd := [])
    (by kernel_rfl) (fun s => by kernel_rfl) Ht.run (by kernel_rfl) (by kernel_rfl) (by kernel_rfl) (by rfl) (by first | assumption | decide +kernel) (by decide +kernel) Ht.bare_ok ?hw ?hc
  case hw => w_witness2
  case hc =>
    refine L2.walk_ofE (l := PySem.Challenge.rw_tenwhole_k14_zeros_finished) (n := 63) (k := 18) (x := "_law_script") (CX := L2.CX0) rfl (by decide) (by kernel_rfl) ⟨rfl, by decide, by decide⟩ ?F (fun _ _ _ _ z => z)
    intro w mg fa h Y G hmg0
    obtain ⟨K, KX, c, ce⟩ := Y
    have hmg : mg ("law" : PySem.Str) = some (.ref fa) := by
      have e : (HandSHeadRun.topDef (OpenLaw.row PySem.Challenge.rw_tenwhole_k14_zeros_finished).prog 226).name = ("law" : PySem.Str) := by kernel_rfl
      rw [← e]
      exact hmg0
    obtain ⟨fd, hb, hF⟩ := Ht.facts (P := (PySem.Challenge.rw_tenwhole_k14_zeros_finished).prog) (w := w) KX G hmg c ce
    exact ⟨K, fd, Tw.sp_law K, KX, hb, fun H a ns hl _ hS => ⟨a, ns, rfl, hS, hl, fun _ => rfl⟩, hF⟩

