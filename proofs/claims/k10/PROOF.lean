import PyProof.Rows.All
import Wide.All
import OpenK.AllK
import Wide.FinOn
import KE.KStateDown
import Lean
import HandS.ForMost
import HandS.Exc
import HandS.More
import HandS.TryOnly
import HandS.ExcOwn
import HandS.WordsExc
import HandS.IsInst
import HandS.Style
import HandS.TupLe
import HandS.TupAny
import HandS.TupMul
import HandS.Defaults
import HandS.Evl
import HandS.Head0
import HandS.Head1
import HandS.Head2
import HandS.HeadEnd
import HandS.HeadHook1
import HandS.HeadHook2
import PySem.Challenge.RW_farfiles_k10_whole_puts_and_cuts_by_turn
set_option Elab.async false
set_option linter.all false
set_option maxRecDepth 100000
set_option maxHeartbeats 4000000
/-! ### the layer of this work: heaps that go on, defs by name, readings step by step -/
namespace Fz
open PySem L2
section
variable {K : PySem.W.Frag} {H H' H1 H2 : Hp} {a p : Addr} {o : HO} {xs : List V}
theorem new_same (hp : H p = none) : Same H (upd H p o) := fun b u e => by rw [upd_ne (ne_of_none e hp)]; exact e
theorem same_tup (e : Same H H') (h : SqT K H a xs) : SqT K H' a xs := by
  rcases h with (h | ⟨o, h⟩) | h
  · exact .inl (.inl (e _ _ h))
  · exact .inl (.inr ⟨o, e _ _ h⟩)
  · exact .inr h
theorem tof (h : H a = some (.tup xs)) : SqT K H a xs := .inl (.inl h)
theorem lof (h : H a = some (.lst xs)) : SqL K H a xs := .inl (.inl h)
/-- what never changes: tuples, and what is locked -/
def Imm : HO → Prop
  | .tup _ => True
  | .frz _ _ => True
  | _ => False
/-- these stay -/
def Tu (H H' : Hp) : Prop := ∀ b o, H b = some o → Imm o → H' b = some o
theorem Tu.tup (e : Tu H H') (h : SqT K H a xs) : SqT K H' a xs := by
  rcases h with (h | ⟨o, h⟩) | h
  · exact .inl (.inl (e _ _ h trivial))
  · exact .inl (.inr ⟨o, e _ _ h trivial⟩)
  · exact .inr h
theorem Tu.of (e : Same H H') : Tu H H' := fun b o h _ => e b o h
theorem Tu.refl (H : Hp) : Tu H H := fun _ _ h _ => h
theorem Tu.trans (a : Tu H H1) (b : Tu H1 H2) : Tu H H2 := fun c o h n => b c o (a c o h n) n
theorem Tu.but {l : Addr} {u : HO} (h : H l = some u) (m : ¬ Imm u) (k : ∀ b o, H b = some o → b ≠ l → H' b = some o) : Tu H H' := fun b o e n => k b o e (by
  rintro rfl
  rw [h] at e
  cases e
  exact m n)
theorem Tu.set {l : Addr} {ys : List V} (h : H l = some (.lst ys)) (o : HO) : Tu H (upd H l o) := Tu.but h (fun z => z) fun b u e n => by rw [upd_ne n]; exact e
/-- all but one list stay -/
def But (p : Addr) (H H' : Hp) : Prop := ∀ b o, H b = some o → b ≠ p → H' b = some o
theorem But.of (e : Same H H') : But p H H' := fun b o h _ => e b o h
theorem But.refl : But p H H := fun _ _ h _ => h
theorem But.trans (a : But p H H1) (b : But p H1 H2) : But p H H2 := fun c o h n => b c o (a c o h n) n
theorem But.set : But p H (upd H p o) := fun b u e n => by rw [upd_ne n]; exact e
theorem But.seq (e : But p H H') (h : SqL K H a xs) (n : a ≠ p) : SqL K H' a xs := by
  rcases h with (h | ⟨o, h⟩) | h
  · exact .inl (.inl (e _ _ h n))
  · exact .inl (.inr ⟨o, e _ _ h n⟩)
  · exact .inr h
theorem But.tu {ys : List V} (e : But p H H') (h : H p = some (.lst ys)) : Tu H H' := Tu.but h (fun z => z) e
theorem But.tuD {kvs : List (Key × V)} (e : But p H H') (h : H p = some (.dK kvs)) : Tu H H' := Tu.but h (fun z => z) e
/-- what was new ahead is no list changed since -/
theorem But.same (e : But p H1 H') (n : H p = none) (s : Same H H1) : Same H H' := fun b o h => e b o (s b o h) (ne_of_none h n)
end
/-! ### the purse -/
def Pur (H : Hp) (p : Addr) : Prop := ∃ a b : Int, H p = some (.lst [.int a, .int b]) ∧ 0 ≤ b ∧ b < 2 ^ 40
structure Go (p : Addr) (H H' : Hp) : Prop where
  keep : But p H H'
  tu : Tu H H'
  pur : Pur H' p
theorem Go.refl {p : Addr} {H : Hp} (h : Pur H p) : Go p H H := ⟨But.refl, Tu.refl H, h⟩
theorem Go.trans {p : Addr} {H H1 H2 : Hp} (a : Go p H H1) (b : Go p H1 H2) : Go p H H2 := ⟨a.keep.trans b.keep, a.tu.trans b.tu, b.pur⟩
theorem Pur.same {p : Addr} {H H' : Hp} (h : Pur H p) (e : Same H H') : Pur H' p := let ⟨a, b, q, r⟩ := h; ⟨a, b, e _ _ q, r⟩
theorem Go.same {p : Addr} {H H1 H2 : Hp} (a : Go p H H1) (e : Same H1 H2) : Go p H H2 := ⟨a.keep.trans (.of e), a.tu.trans (.of e), a.pur.same e⟩
theorem Go.of {p : Addr} {H H' : Hp} (h : Pur H p) (e : Same H H') : Go p H H' := (Go.refl h).same e
theorem Pur.ne {p q : Addr} {H : Hp} (h : Pur H p) (n : H q = none) : q ≠ p := by
  obtain ⟨a, b, e, _⟩ := h
  exact (ne_of_none e n).symm
/-! ### a def by its name -/
structure Df (P : Program) (w : World) (K : PySem.W.Frag) (mg : Str → Option Value) (base : Heap) (CX : CXT) (k : Nat) (x : Str) (ps : List Str) (sp : Sp) : Prop where
  ex : ∃ fd, FnOk P w K mg base CX k (He.ga K x) fd ps sp ∧ Binds K fd ps []
  gl : mg x = some (.ref (He.ga K x))
  kp : PySem.W.keepIn K (.ref (He.ga K x)) = true
theorem pe_cl {X : Cx} {CX : CXT} {k : Nat} {x : Str} {ps : List Str} {sp : Sp} {E : XK} {e : Expr} {es : List Expr} {t : TA} {p pos : Pos} (D : Df X.prog X.w X.K X.mg X.base CX k x ps sp) (hr : Room k X.A) (hg : Gl X x) (hx : Passes CX X E)
    (ha : PA X (e :: es) t) (hdb : (x == ("__debug__" : Str)) = false := by decide) (he : starEach (e :: es) X.env = (false, eval e X.env) :: starEach es X.env := by rfl)
    (hpl : (backTo pos (starEach es X.env)).any (·.1) = false := by rfl) : PE X (.Call (.Name x p) (e :: es) [] pos) (tCall sp [] E t) := by
  obtain ⟨fd, F, b⟩ := D.ex
  exact pe_call F hr hg D.gl D.kp b .nil hx ha hdb he hpl
end Fz
/-! ### readings, a step at a time: each is the reading's own word, unfolded once -/
namespace Fz
open PySem L2
section
variable {K : PySem.W.Frag} {σ : L2.St} {H : Hp} {Q : VK} {D : Ends} {ta tb tc te : TE} {t u : TS} {tt tu : TT} {v : V} {i j : Nat} {QB : Bool → Hp → Prop} {QA : List V → Hp → Prop} {tA tr : TA} {xs : List V} {a p : Addr}
theorem w_seq (h : t { D with nx := u D } σ H) : tSeq t u D σ H := h
theorem w_asg {g : TG} (h : te σ H fun x H1 => g x σ H1 D.nx) : tAsg te g D σ H := h
theorem w_name {N : L2.St → Hp → Prop} (h : N (σ.set i (some v)) H) : gName i v σ H N := h
theorem w_enx {N B C : L2.St → Hp → Prop} {R : VK} (h : N σ H) : Ends.nx ⟨N, R, B, C⟩ σ H := h
theorem w_ert {N B C : L2.St → Hp → Prop} {R : VK} (h : R v H) : Ends.rt ⟨N, R, B, C⟩ v H := h
theorem w_ebk {N B C : L2.St → Hp → Prop} {R : VK} (h : B σ H) : Ends.bk ⟨N, R, B, C⟩ σ H := h
theorem w_ect {N B C : L2.St → Hp → Prop} {R : VK} (h : C σ H) : Ends.ct ⟨N, R, B, C⟩ σ H := h
theorem w_ret (h : te σ H D.rt) : tRet te D σ H := h
theorem w_drop (h : te σ H fun _ H1 => D.nx σ H1) : tDrop te D σ H := h
theorem w_next (h : D.nx σ H) : tNext D σ H := h
theorem w_cont (h : D.ct σ H) : tCont D σ H := h
theorem w_ifs (h : tt σ H fun b H1 => if b = true then t D σ H1 else u D σ H1) : tIfS tt t u D σ H := h
theorem w_var (e : σ[i]? = some (some v)) (h : Q v H) : tVar i σ H Q := ⟨v, e, h⟩
theorem w_c (h : Q v H) : tC v σ H Q := h
theorem w_op {r : R2} (h : ta σ H fun x H1 => tb σ H1 fun y H2 => r x y H2 Q) : tOp r ta tb σ H Q := h
theorem w_un {r : V → Hp → VK → Prop} (h : ta σ H fun x H1 => r x H1 Q) : tUn r ta σ H Q := h
theorem w_test (h : te σ H fun x H' => ∃ k, x = .bl k ∧ QB k H') : tTest te σ H QB := h
theorem w_tb (h : te σ H fun x H' => ∃ k, x = .bl k ∧ QB k H') : tB te σ H QB := h
theorem w_bl {b : Bool} {R : Bool → Prop} (h : R b) : ∃ k, V.bl b = .bl k ∧ R k := ⟨b, rfl, h⟩
theorem w_and (h : tt σ H fun c H1 => if c = true then tu σ H1 QB else QB false H1) : tAnd tt tu σ H QB := h
theorem w_or (h : tt σ H fun c H1 => if c = true then QB true H1 else tu σ H1 QB) : tOr tt tu σ H QB := h
theorem w_not (h : tt σ H fun c H1 => QB (!c) H1) : tNot tt σ H QB := h
theorem w_andV (h : ta σ H fun x H1 => ∃ c, x = .bl c ∧ if c = true then tb σ H1 Q else Q (.bl false) H1) : tAndV ta tb σ H Q := h
theorem w_orV (h : ta σ H fun x H1 => ∃ c, x = .bl c ∧ if c = true then Q (.bl true) H1 else tb σ H1 Q) : tOrV ta tb σ H Q := h
theorem w_notV (h : ta σ H fun x H1 => ∃ c, x = .bl c ∧ Q (.bl (!c)) H1) : tNotV ta σ H Q := h
theorem w_ifE (h : tt σ H fun c H1 => if c = true then ta σ H1 Q else tb σ H1 Q) : tIf tt ta tb σ H Q := h
theorem w_chain {r r' : R2} (h : ta σ H fun x H1 => tb σ H1 fun y H2 => r x y H2 fun z H3 => ∃ k, z = .bl k ∧ (if k = true then tc σ H3 fun w' H4 => r' y w' H4 Q else Q (.bl false) H3)) : tChain r r' ta tb tc σ H Q := h
theorem w_nil (h : QA [] H) : tNil σ H QA := h
theorem w_cons (h : ta σ H fun x H1 => tr σ H1 fun xs H2 => QA (x :: xs) H2) : tCons ta tr σ H QA := h
theorem w_call {sp : Sp} {dvs : List V} {E : XK} (h : tA σ H fun vs H1 => sp (vs ++ dvs) H1 Q E) : tCall sp dvs E tA σ H Q := h
theorem w_cb {r : List V → Hp → VK → Prop} (h : tA σ H fun vs H1 => r vs H1 Q) : tCB r tA σ H Q := h
theorem w_parS {tA : TA} (h : tA σ H fun vs H1 => ∃ v w, vs = [v, w] ∧ D.nx ((σ.set i (some v)).set j (some w)) H1) : tPar i j tA D σ H := h
theorem w_par3S {l : Nat} {tA : TA} (h : tA σ H fun vs H1 => ∃ u v w, vs = [u, v, w] ∧ D.nx (((σ.set i (some u)).set j (some v)).set l (some w)) H1) : tPar3 i j l tA D σ H := h
theorem w_aug {x : V} {ti : TIp} (e : σ[i]? = some (some x)) (h : te σ H fun y H1 => ti x y H1 fun z H2 => D.nx (σ.set i (some z)) H2) : tAug i te ti D σ H := ⟨x, e, h⟩
theorem w_ipI {f : Int → Int → Int} {m n : Int} (h : Q (.int (f m n)) H) : ipI f (.int m) (.int n) H Q := ⟨m, n, rfl, rfl, h⟩
theorem w_I0 {g : Int → Int → V} {m n : Int} (h : Q (g m n) H) : rI0 g (.int m) (.int n) H Q := ⟨m, n, rfl, rfl, h⟩
theorem w_I {C : Int → Int → Prop} {g : Int → Int → V} {m n : Int} (c : C m n) (h : Q (g m n) H) : rI C g (.int m) (.int n) H Q := ⟨m, n, rfl, rfl, c, h⟩
theorem w_U {g : Int → V} {n : Int} (h : Q (g n) H) : rU g (.int n) H Q := ⟨n, rfl, h⟩
theorem w_eqI {m n : Int} (h : Q (.bl (decide (m = n))) H) : rEq (.int m) (.int n) H Q := ⟨rfl, by
  have e : decide (V.int m = V.int n) = decide (m = n) := decide_eq_decide.mpr ⟨fun z => V.int.inj z, fun z => congrArg V.int z⟩
  rw [e]; exact h⟩
theorem w_neI {m n : Int} (h : Q (.bl (!decide (m = n))) H) : rNe (.int m) (.int n) H Q := ⟨rfl, by
  have e : decide (V.int m = V.int n) = decide (m = n) := decide_eq_decide.mpr ⟨fun z => V.int.inj z, fun z => congrArg V.int z⟩
  rw [e]; exact h⟩
theorem w_eqS {m n : Str} (h : Q (.bl (decide (m = n))) H) : rEq (.str m) (.str n) H Q := ⟨rfl, by
  have e : decide (V.str m = V.str n) = decide (m = n) := decide_eq_decide.mpr ⟨fun z => V.str.inj z, fun z => congrArg V.str z⟩
  rw [e]; exact h⟩
theorem w_neS {m n : Str} (h : Q (.bl (!decide (m = n))) H) : rNe (.str m) (.str n) H Q := ⟨rfl, by
  have e : decide (V.str m = V.str n) = decide (m = n) := decide_eq_decide.mpr ⟨fun z => V.str.inj z, fun z => congrArg V.str z⟩
  rw [e]; exact h⟩
theorem w_eqB {m n : Bool} (h : Q (.bl (decide (m = n))) H) : rEq (.bl m) (.bl n) H Q := ⟨rfl, by
  have e : decide (V.bl m = V.bl n) = decide (m = n) := decide_eq_decide.mpr ⟨fun z => V.bl.inj z, fun z => congrArg V.bl z⟩
  rw [e]; exact h⟩
theorem w_gtup {n : Nat} {ts : TGs} {N : L2.St → Hp → Prop} (hs : SqT K H a xs) (hl : xs.length = n) (h : ts xs σ H N) : gTup K n ts (.ref a) σ H N := ⟨a, xs, rfl, hs, hl, h⟩
theorem w_gnil {N : L2.St → Hp → Prop} (h : N σ H) : gNil [] σ H N := ⟨rfl, h⟩
theorem w_gcons {g : TG} {gs : TGs} {N : L2.St → Hp → Prop} (h : g v σ H fun σ' H' => gs xs σ' H' N) : gCons g gs (v :: xs) σ H N := ⟨v, xs, rfl, h⟩
theorem w_gsub {to ti : TE} {ts : TSet} {N : L2.St → Hp → Prop} (h : to σ H fun o H1 => ti σ H1 fun i H2 => ts o i v H2 fun H3 => N σ H3) : gSub to ti ts v σ H N := h
theorem w_ixL {k : Int} (hs : SqL K H p xs) (ha : atI xs k = some v) (h : Q v H) : rIxL K (.ref p) (.int k) H Q := ⟨p, xs, k, v, rfl, rfl, hs, ha, h⟩
theorem w_ixT {k : Int} (hs : SqT K H p xs) (ha : atI xs k = some v) (h : Q v H) : rIxT K (.ref p) (.int k) H Q := ⟨p, xs, k, v, rfl, rfl, hs, ha, h⟩
theorem w_sl {r : V → Option Int → Option Int → Hp → VK → Prop} {tl th : TO} (h : te σ H fun x H1 => tl σ H1 fun l H2 => th σ H2 fun u H3 => r x l u H3 Q) : L2.tSl r te tl th σ H Q := h
theorem w_part {QO : Option Int → Hp → Prop} (h : te σ H fun x H1 => ∃ i, x = .int i ∧ QO (some i) H1) : tPart te σ H QO := h
theorem w_int {n : Int} {R : Int → Prop} (h : R n) : ∃ i, V.int n = .int i ∧ R i := ⟨n, rfl, h⟩
theorem w_nopart {QO : Option Int → Hp → Prop} (h : QO none H) : tNoPart σ H QO := h
theorem w_bm {T : String} {r : V → List V → Hp → VK → Prop} {to : TE} (h : to σ H fun x H1 => tyV K T x H1 ∧ tA σ H1 fun xs H2 => r x xs H2 Q) : tBM K T r to tA σ H Q := h
theorem w_tyL {Z : Prop} (hs : SqL K H p xs) (h : Z) : tyV K "list" (.ref p) H ∧ Z := ⟨.inl ⟨rfl, _, hs⟩, h⟩
theorem w_sum {ns : List Int} (hs : SqL K H p (ns.map V.int)) (h : Q (.int ns.sum) H) : rSum K [.ref p] H Q := ⟨p, ns, rfl, hs, h⟩
theorem w_all {bs : List Bool} (hs : SqL K H p (bs.map V.bl)) (h : Q (.bl (bs.all id)) H) : rAll K [.ref p] H Q := ⟨p, bs, rfl, hs, h⟩
theorem w_any {bs : List Bool} (hs : SqL K H p (bs.map V.bl)) (h : Q (.bl (bs.any id)) H) : rAny K [.ref p] H Q := ⟨p, bs, rfl, hs, h⟩

theorem w_isi {x : V} {ty T : String} {b : Bool} (hx : TyX K H x (.type ty)) (hk : kitB ty T = some b) (h : Q (.bl b) H) : rIsi K [x, .ty T] H Q := ⟨x, .ty T, .type ty, .type T, b, rfl, .ty T, hx, kit_ty hk, h⟩
theorem bt_isinstance : bootBuiltins "isinstance" = some (.builtin "isinstance") := by decide +kernel
theorem bt_len : bootBuiltins "len" = some (.builtin "len") := by decide +kernel
theorem bt_all : bootBuiltins "all" = some (.builtin "all") := by decide +kernel
theorem bt_any : bootBuiltins "any" = some (.builtin "any") := by decide +kernel
theorem bt_sum : bootBuiltins "sum" = some (.builtin "sum") := by decide +kernel
theorem bt_max : bootBuiltins "max" = some (.builtin "max") := by decide +kernel
theorem bt_min : bootBuiltins "min" = some (.builtin "min") := by decide +kernel
theorem bt_repr : bootBuiltins "repr" = some (.builtin "repr") := by decide +kernel
theorem bt_sorted : bootBuiltins "sorted" = some (.builtin "sorted") := by decide +kernel
theorem bt_abs : bootBuiltins "abs" = some (.builtin "abs") := by decide +kernel
theorem bt_int : bootBuiltins "int" = some (.type "int") := by decide +kernel
theorem bt_str : bootBuiltins "str" = some (.type "str") := by decide +kernel
theorem bt_bool : bootBuiltins "bool" = some (.type "bool") := by decide +kernel
theorem bt_tuple : bootBuiltins "tuple" = some (.type "tuple") := by decide +kernel
theorem bt_list : bootBuiltins "list" = some (.type "list") := by decide +kernel
theorem bt_dict : bootBuiltins "dict" = some (.type "dict") := by decide +kernel
theorem bt_set : bootBuiltins "set" = some (.type "set") := by decide +kernel
theorem bt_ValueError : bootBuiltins "ValueError" = some (.type "ValueError") := by decide +kernel
theorem bt_LookupError : bootBuiltins "LookupError" = some (.type "LookupError") := by decide +kernel
theorem kit_int_int : kitB "int" "int" = some true := by decide +kernel
theorem kit_int_bool : kitB "int" "bool" = some false := by decide +kernel
theorem kit_int_str : kitB "int" "str" = some false := by decide +kernel
theorem kit_int_tuple : kitB "int" "tuple" = some false := by decide +kernel
theorem kit_int_list : kitB "int" "list" = some false := by decide +kernel
theorem kit_int_dict : kitB "int" "dict" = some false := by decide +kernel
theorem kit_bool_int : kitB "bool" "int" = some true := by decide +kernel
theorem kit_bool_bool : kitB "bool" "bool" = some true := by decide +kernel
theorem kit_bool_str : kitB "bool" "str" = some false := by decide +kernel
theorem kit_bool_tuple : kitB "bool" "tuple" = some false := by decide +kernel
theorem kit_bool_list : kitB "bool" "list" = some false := by decide +kernel
theorem kit_bool_dict : kitB "bool" "dict" = some false := by decide +kernel
theorem kit_str_int : kitB "str" "int" = some false := by decide +kernel
theorem kit_str_bool : kitB "str" "bool" = some false := by decide +kernel
theorem kit_str_str : kitB "str" "str" = some true := by decide +kernel
theorem kit_str_tuple : kitB "str" "tuple" = some false := by decide +kernel
theorem kit_str_list : kitB "str" "list" = some false := by decide +kernel
theorem kit_str_dict : kitB "str" "dict" = some false := by decide +kernel
theorem kit_tuple_int : kitB "tuple" "int" = some false := by decide +kernel
theorem kit_tuple_bool : kitB "tuple" "bool" = some false := by decide +kernel
theorem kit_tuple_str : kitB "tuple" "str" = some false := by decide +kernel
theorem kit_tuple_tuple : kitB "tuple" "tuple" = some true := by decide +kernel
theorem kit_tuple_list : kitB "tuple" "list" = some false := by decide +kernel
theorem kit_tuple_dict : kitB "tuple" "dict" = some false := by decide +kernel
theorem kit_list_int : kitB "list" "int" = some false := by decide +kernel
theorem kit_list_bool : kitB "list" "bool" = some false := by decide +kernel
theorem kit_list_str : kitB "list" "str" = some false := by decide +kernel
theorem kit_list_tuple : kitB "list" "tuple" = some false := by decide +kernel
theorem kit_list_list : kitB "list" "list" = some true := by decide +kernel
theorem kit_list_dict : kitB "list" "dict" = some false := by decide +kernel
theorem kit_dict_int : kitB "dict" "int" = some false := by decide +kernel
theorem kit_dict_bool : kitB "dict" "bool" = some false := by decide +kernel
theorem kit_dict_str : kitB "dict" "str" = some false := by decide +kernel
theorem kit_dict_tuple : kitB "dict" "tuple" = some false := by decide +kernel
theorem kit_dict_list : kitB "dict" "list" = some false := by decide +kernel
theorem kit_dict_dict : kitB "dict" "dict" = some true := by decide +kernel
theorem kit_NoneType_int : kitB "NoneType" "int" = some false := by decide +kernel
theorem kit_NoneType_bool : kitB "NoneType" "bool" = some false := by decide +kernel
theorem kit_NoneType_str : kitB "NoneType" "str" = some false := by decide +kernel
theorem kit_NoneType_tuple : kitB "NoneType" "tuple" = some false := by decide +kernel
theorem kit_NoneType_list : kitB "NoneType" "list" = some false := by decide +kernel
theorem kit_NoneType_dict : kitB "NoneType" "dict" = some false := by decide +kernel
theorem ty_tup {K : PySem.W.Frag} {H : Hp} {p : Addr} {xs : List V} (h : SqT K H p xs) : TyX K H (.ref p) (.type "tuple") := by
  rcases h with (h | ⟨o, h⟩) | ⟨o, _, _, h, c, _⟩
  · exact .base (.tup h)
  · exact .fTuple h
  · exact .kTuple h c
theorem ty_lst {K : PySem.W.Frag} {H : Hp} {p : Addr} {xs : List V} (h : SqL K H p xs) : TyX K H (.ref p) (.type "list") := by
  rcases h with (h | ⟨o, h⟩) | ⟨o, _, _, h, c, _⟩
  · exact .base (.lst h)
  · exact .base (.frz h)
  · exact .kList h c
theorem w_nT {A B : Prop} (h : B) : if (!true) = true then A else B := h
theorem w_nF {A B : Prop} (h : A) : if (!false) = true then A else B := h
theorem w_sz {Z : Prop} (e : Nat.ble xs.length sizeLine = true) (h : Z) : xs.length ≤ sizeLine ∧ Z := ⟨Nat.le_of_ble_eq_true e, h⟩
theorem w_neD {x y : V} {d e : PyData} (h1 : Dp K H x d) (h2 : Dp K H y e) (s1 : SeqAt.shaped d = true) (s2 : SeqAt.shaped e = true) (h : Q (.bl (!PyData.eqv d e)) H) : rNeD K x y H Q := ⟨d, e, h1, h2, s1, s2, h⟩
theorem w_eqD {x y : V} {d e : PyData} (h1 : Dp K H x d) (h2 : Dp K H y e) (s1 : SeqAt.shaped d = true) (s2 : SeqAt.shaped e = true) (h : Q (.bl (PyData.eqv d e)) H) : rEqD K x y H Q := ⟨d, e, h1, h2, s1, s2, h⟩
theorem w_rng1 {R : It → Hp → Prop} (h : tA σ H fun vs H1 => ∃ j : Int, vs = [.int j] ∧ -(2 ^ 62) ≤ j ∧ j < 2 ^ 62 ∧ R (Itr 0 j.toNat) H1) : iRng1 tA σ H R := h
theorem w_rng2 {R : It → Hp → Prop} (h : tA σ H fun vs H1 => ∃ i j : Int, vs = [.int i, .int j] ∧ (-(2 ^ 62) ≤ i ∧ i < 2 ^ 62 ∧ -(2 ^ 62) ≤ j ∧ j < 2 ^ 62) ∧ R (Itr i (j - i).toNat) H1) : iRng2 tA σ H R := h
theorem w_ilist {R : It → Hp → Prop} (h : te σ H fun x H1 => ∃ a, x = .ref a ∧ (∃ xs, SqL K H1 a xs) ∧ R (Itl K a) H1) : iList K te σ H R := h
theorem w_itup {R : It → Hp → Prop} (h : te σ H fun x H1 => ∃ a, x = .ref a ∧ (∃ xs, SqT K H1 a xs) ∧ R (Itt K a) H1) : iTup K te σ H R := h
theorem w_for {wi : TI} {g : TG} {tb : TS} (h : wi σ H fun J H1 => ∃ W : Nat → Nat → L2.St → Hp → Prop, (∃ m, W 0 m σ H1) ∧ ∀ i m σ H, W i m σ H →
  (J.stop i H ∧ D.nx σ H) ∨ (J.go i H ∧ ∃ N : L2.St → Hp → Prop, (∀ σ' H', N σ' H' → ∃ m', m' < m ∧ W (i + 1) m' σ' H') ∧ ∀ x H', J.yld i H x H' → g x σ H' fun σ2 H2 => tb { D with nx := N, ct := N, bk := D.nx } σ2 H2)) : tFor wi g tb D σ H := h
end
end Fz

/-! ### readings by names, heaps as letters -/
namespace Fz
open PySem PySem.Spec PyProof.Rows L2
abbrev NewQ (H : Hp) (o : HO) (Q : VK) : Prop := ∀ p H2, H p = none → Same H H2 → H2 p = some o → Q (.ref p) H2
theorem NewQ.at {H : Hp} {o : HO} {Q : VK} (h : NewQ H o Q) (p : Addr) (n : H p = none) : Q (.ref p) (upd H p o) := h p _ n (new_same n) upd_same
def tTupN (t : TA) : TE := fun σ H Q => t σ H fun xs H1 => xs.length ≤ sizeLine ∧ NewQ H1 (.tup xs) Q
def tLstN (t : TA) : TE := fun σ H Q => t σ H fun xs H1 => xs.length ≤ sizeLine ∧ NewQ H1 (.lst xs) Q
def rCatN : R2 := fun x y H Q => ∃ l b xs zs, x = .ref l ∧ y = .ref b ∧ H l = some (.lst xs) ∧ H b = some (.lst zs) ∧ xs.length + zs.length ≤ sizeLine ∧ NewQ H (.lst (xs ++ zs)) Q
def rSlLN (K : PySem.W.Frag) : V → Option Int → Option Int → Hp → VK → Prop := fun x lo hi H Q => ∃ a xs, x = .ref a ∧ SqL K H a xs ∧ NewQ H (.lst (cutV xs lo hi)) Q
def rAppN : V → List V → Hp → VK → Prop := fun x vs H Q => ∃ l xs y, x = .ref l ∧ vs = [y] ∧ H l = some (.lst xs) ∧ xs.length < sizeLine ∧ ∀ H2, But l H H2 → H2 l = some (.lst (xs ++ [y])) → Q .non H2
def rExtN : V → List V → Hp → VK → Prop := fun x vs H Q => ∃ l b xs zs, x = .ref l ∧ vs = [.ref b] ∧ H l = some (.lst xs) ∧ H b = some (.lst zs) ∧ xs.length + zs.length ≤ sizeLine ∧ ∀ H2, But l H H2 → H2 l = some (.lst (xs ++ zs)) → Q .non H2
def rSetN : TSet := fun o i v H Q => ∃ p xs k j, o = .ref p ∧ i = .int k ∧ H p = some (.lst xs) ∧ ixN xs.length k = some j ∧ ∀ H2, But p H H2 → H2 p = some (.lst (xs.set j v)) → Q H2
def cTup (K : PySem.W.Frag) : List V → Hp → VK → Prop := fun vs H Q => ∃ p ys, vs = [.ref p] ∧ SqL K H p ys ∧ NewQ H (.tup ys) Q
def cTupT (K : PySem.W.Frag) : List V → Hp → VK → Prop := fun vs H Q => ∃ p ys, vs = [.ref p] ∧ SqT K H p ys ∧ Q (.ref p) H
def cLst (K : PySem.W.Frag) : List V → Hp → VK → Prop := fun vs H Q => ∃ p ys, vs = [.ref p] ∧ (SqL K H p ys ∨ SqT K H p ys) ∧ NewQ H (.lst ys) Q
def cLen (K : PySem.W.Frag) : List V → Hp → VK → Prop := fun vs H Q => ∃ x n, vs = [x] ∧ LenV K x H n ∧ Q (.int n) H
def cMax : List V → Hp → VK → Prop := fun vs H Q => ∃ i j, vs = [.int i, .int j] ∧ Q (.int (if j > i then j else i)) H
def cMin : List V → Hp → VK → Prop := fun vs H Q => ∃ i j, vs = [.int i, .int j] ∧ Q (.int (if j < i then j else i)) H
def rIsN' : R2 := fun x y H Q => y = .non ∧ Q (.bl (decide (x = .non))) H
def rNotN' : R2 := fun x y H Q => y = .non ∧ Q (.bl (!decide (x = .non))) H
def rIsB' : R2 := fun x y H Q => ∃ a b, x = .bl a ∧ y = .bl b ∧ Q (.bl (decide (a = b))) H
def rIsnB' : R2 := fun x y H Q => ∃ a b, x = .bl a ∧ y = .bl b ∧ Q (.bl (!decide (a = b))) H
def rAddS' : R2 := fun x y H Q => ∃ i j, x = .str i ∧ y = .str j ∧ i.length + j.length ≤ sizeLine ∧ Q (.str (i ++ j)) H
section
variable {X : Cx} {es : List Expr} {t : TA} {pos : Pos}
theorem pe_tupN {x1} (h : PA X es t) : PE X (.Tuple es x1 pos) (tTupN t) := by
  refine ⟨fun pins s σ H Q I hq => ?_⟩
  refine wpAny_Tuple_spliced (thn (h.run pos pins s σ H _ I hq) fun us s1 ⟨xs, H1, I1, r, z, q⟩ => ⟨by rw [← r.length]; exact z, ?_⟩)
  have hf : H1 s1.heap.objs.size = none := I1.hok.fresh (Nat.le_refl _)
  refine ⟨.ref s1.heap.objs.size, upd H1 s1.heap.objs.size (.tup xs), I1.laid (t' := s1.toks) (fun b u e => Heap.get?_push_of_some _ e) (Nat.le_refl _) ?_, rfl, q.at _ hf⟩
  exact ⟨z, us, r, ⟨_, Heap.get?_push_size _ rfl, rfl, _, rfl⟩⟩
theorem pe_lstN (h : PA X es t) : PE X (.List es pos) (tLstN t) := by
  refine ⟨fun pins s σ H Q I hq => ?_⟩
  refine wpAny_List_spliced (thn (h.run pos pins s σ H _ I hq) fun us s1 ⟨xs, H1, I1, r, z, q⟩ => ⟨by rw [← r.length]; exact z, ?_⟩)
  have hf : H1 s1.heap.objs.size = none := I1.hok.fresh (Nat.le_refl _)
  refine ⟨.ref s1.heap.objs.size, upd H1 s1.heap.objs.size (.lst xs), I1.laid (t' := s1.toks) (fun b u e => Heap.get?_push_of_some _ e) (Nat.le_refl _) ?_, rfl, q.at _ hf⟩
  exact ⟨z, us, 0, r, Heap.get?_push_size _ rfl⟩
theorem OpR.le {f : Value → Value → Sem Value} {r r' : R2} (h : OpR X f r) (m : ∀ x y H Q, r' x y H Q → r x y H Q) : OpR X f r' := fun pins s σ H x y v u Q I rx ry q => h pins s σ H x y v u Q I rx ry (m _ _ _ _ q)
theorem CallR.le {f : Value} {r r' : List V → Hp → VK → Prop} (h : CallR X f r) (m : ∀ vs H Q, r' vs H Q → r vs H Q) : CallR X f r' := fun pins s σ H xs us Q I rx q => h pins s σ H xs us Q I rx (m _ _ _ q)
theorem op_catN : OpR X (binaryOp .Add) rCatN := OpR.le op_cat fun _ _ _ _ ⟨l, b, xs, zs, e1, e2, h1, h2, hz, q⟩ => ⟨l, b, xs, zs, e1, e2, h1, h2, hz, fun p n => q.at p n⟩
theorem sl_listN : SlR X (rSlLN X.K) := fun pins s σ H x v vl vu lo hi sl Q I rx hs pl pu ⟨a, xs, e, h, q⟩ => sl_list pins s σ H x v vl vu lo hi sl Q I rx hs pl pu ⟨a, xs, e, h, fun p n => q.at p n⟩
theorem mt_appN : MtR X "list.append" rAppN := fun pins s σ H x xs v us Q I rx rv ⟨l, ys, y, e1, e2, h, z, q⟩ => mt_append pins s σ H x xs v us Q I rx rv ⟨l, ys, y, e1, e2, h, z, q _ But.set upd_same⟩
theorem mt_extN : MtR X "list.extend" rExtN := fun pins s σ H x xs v us Q I rx rv ⟨l, b, ys, zs, e1, e2, h, h2, z, q⟩ => mt_extend pins s σ H x xs v us Q I rx rv ⟨l, b, ys, zs, e1, e2, h, h2, z, q _ But.set upd_same⟩
theorem set_listN : PSet X rSetN := fun pins s σ H o i v ov iv u Q I r1 r2 r3 ⟨p, xs, k, j, e1, e2, h, hj, q⟩ => set_list pins s σ H o i v ov iv u Q I r1 r2 r3 ⟨p, xs, k, j, e1, e2, h, hj, q _ But.set upd_same⟩
theorem call_tupN : CallR X (.type "tuple") (cTup X.K) := CallR.le call_tuple_of fun _ _ _ ⟨p, ys, e, h, q⟩ => ⟨p, ys, e, .inl ⟨h, fun l n => q.at l n⟩⟩
theorem call_tupT' : CallR X (.type "tuple") (cTupT X.K) := CallR.le call_tuple_of fun _ _ _ ⟨p, ys, e, h, q⟩ => ⟨p, ys, e, .inr ⟨h, q⟩⟩
theorem call_lstN : CallR X (.type "list") (cLst X.K) := CallR.le call_list_of fun _ _ _ ⟨p, ys, e, h, q⟩ => ⟨p, ys, e, h, fun l n => q.at l n⟩
theorem call_lenN : CallR X (.builtin "len") (cLen X.K) := call_len
theorem call_maxN (hc : X.calm = true) : CallR X (.builtin "max") cMax := call_max2 hc
theorem call_minN (hc : X.calm = true) : CallR X (.builtin "min") cMin := call_min2 hc
theorem op_isNN : OpR X (compareOp .Is) rIsN' := op_isN
theorem op_notNN : OpR X (compareOp .IsNot) rNotN' := op_notN
theorem op_isBN : OpR X (compareOp .Is) rIsB' := op_is_bl
theorem op_isnBN : OpR X (compareOp .IsNot) rIsnB' := op_isnot_bl
theorem op_addSN : OpR X (binaryOp .Add) rAddS' := op_add_str
end
section
variable {K : PySem.W.Frag} {σ : L2.St} {H : Hp} {Q : VK} {D : Ends} {v x y : V} {i j : Nat} {tA : TA} {xs zs : List V} {a b p l : Addr}
theorem w_tup (h : tA σ H fun xs H1 => xs.length ≤ sizeLine ∧ NewQ H1 (.tup xs) Q) : tTupN tA σ H Q := h
theorem w_lst (h : tA σ H fun xs H1 => xs.length ≤ sizeLine ∧ NewQ H1 (.lst xs) Q) : tLstN tA σ H Q := h
theorem w_par {R : V → V → Prop} (h : R x y) : ∃ v w, [x, y] = [v, w] ∧ R v w := ⟨x, y, rfl, h⟩
theorem w_par3 {z : V} {R : V → V → V → Prop} (h : R x y z) : ∃ u v w, [x, y, z] = [u, v, w] ∧ R u v w := ⟨x, y, z, rfl, h⟩
theorem w_slL {lo hi : Option Int} (hs : SqL K H p xs) (h : NewQ H (.lst (cutV xs lo hi)) Q) : rSlLN K (.ref p) lo hi H Q := ⟨p, xs, rfl, hs, h⟩
theorem w_cat (h1 : H l = some (.lst xs)) (h2 : H b = some (.lst zs)) (hl : xs.length + zs.length ≤ sizeLine) (h : NewQ H (.lst (xs ++ zs)) Q) : rCatN (.ref l) (.ref b) H Q := ⟨l, b, xs, zs, rfl, rfl, h1, h2, hl, h⟩
theorem w_append (hp : H p = some (.lst xs)) (hl : xs.length < sizeLine) (h : ∀ H2, But p H H2 → H2 p = some (.lst (xs ++ [v])) → Q .non H2) : rAppN (.ref p) [v] H Q := ⟨p, xs, v, rfl, rfl, hp, hl, h⟩
theorem w_extend (hp : H p = some (.lst xs)) (hb : H b = some (.lst zs)) (hl : xs.length + zs.length ≤ sizeLine) (h : ∀ H2, But p H H2 → H2 p = some (.lst (xs ++ zs)) → Q .non H2) : rExtN (.ref p) [.ref b] H Q := ⟨p, b, xs, zs, rfl, rfl, hp, hb, hl, h⟩
theorem w_setL {k : Int} {j : Nat} {N : Hp → Prop} (hp : H p = some (.lst xs)) (hj : ixN xs.length k = some j) (h : ∀ H2, But p H H2 → H2 p = some (.lst (xs.set j v)) → N H2) : rSetN (.ref p) (.int k) v H N := ⟨p, xs, k, j, rfl, rfl, hp, hj, h⟩
theorem w_tuple (hs : SqL K H p xs) (h : NewQ H (.tup xs) Q) : cTup K [.ref p] H Q := ⟨p, xs, rfl, hs, h⟩
theorem w_tupleT (hs : SqT K H p xs) (h : Q (.ref p) H) : cTupT K [.ref p] H Q := ⟨p, xs, rfl, hs, h⟩
theorem w_listT (hs : SqT K H p xs) (h : NewQ H (.lst xs) Q) : cLst K [.ref p] H Q := ⟨p, xs, rfl, .inr hs, h⟩
theorem w_listL (hs : SqL K H p xs) (h : NewQ H (.lst xs) Q) : cLst K [.ref p] H Q := ⟨p, xs, rfl, .inl hs, h⟩
theorem w_lenL (hs : SqL K H p xs) (h : Q (.int xs.length) H) : cLen K [.ref p] H Q := ⟨_, _, rfl, .inl ⟨_, hs, rfl⟩, h⟩
theorem w_lenT (hs : SqT K H p xs) (h : Q (.int xs.length) H) : cLen K [.ref p] H Q := ⟨_, _, rfl, .inr ⟨_, hs, rfl⟩, h⟩
theorem w_lenS {z : Str} (hz : z.length ≤ sizeLine) (h : Q (.int z.length) H) : cLen K [.str z] H Q := ⟨_, _, rfl, ⟨hz, rfl⟩, h⟩
theorem w_max {m n : Int} (h : Q (.int (if n > m then n else m)) H) : cMax [.int m, .int n] H Q := ⟨m, n, rfl, h⟩
theorem w_min {m n : Int} (h : Q (.int (if n < m then n else m)) H) : cMin [.int m, .int n] H Q := ⟨m, n, rfl, h⟩
theorem w_isN (h : Q (.bl (decide (v = .non))) H) : rIsN' v .non H Q := ⟨rfl, h⟩
theorem w_notN (h : Q (.bl (!decide (v = .non))) H) : rNotN' v .non H Q := ⟨rfl, h⟩
theorem w_isB {a b : Bool} (h : Q (.bl (decide (a = b))) H) : rIsB' (.bl a) (.bl b) H Q := ⟨a, b, rfl, rfl, h⟩
theorem w_isnB {a b : Bool} (h : Q (.bl (!decide (a = b))) H) : rIsnB' (.bl a) (.bl b) H Q := ⟨a, b, rfl, rfl, h⟩
theorem w_addS {a b : Str} (hz : a.length + b.length ≤ sizeLine) (h : Q (.str (a ++ b)) H) : rAddS' (.str a) (.str b) H Q := ⟨a, b, rfl, rfl, hz, h⟩
end
end Fz
/-! ### the rules with the written part named -/
namespace Fz
open PySem PySem.Spec PyProof.Rows L2
section
variable {X : Cx} {K : PySem.W.Frag} (e : X.K = K)
include e
theorem k_len : CallR X (.builtin "len") (cLen K) := e ▸ call_lenN
theorem k_isi : CallR X (.builtin "isinstance") (rIsi K) := e ▸ call_isi
theorem k_isiT : CallR X (.builtin "isinstance") (rIsiT K) := e ▸ call_isiT
theorem k_all (hc : X.calm = true) : CallR X (.builtin "all") (rAll K) := e ▸ cr_all hc
theorem k_any (hc : X.calm = true) : CallR X (.builtin "any") (rAny K) := e ▸ cr_any hc
theorem k_sum (hc : X.calm = true) : CallR X (.builtin "sum") (rSum K) := e ▸ cr_sum hc
theorem k_tuple : CallR X (.type "tuple") (cTup K) := e ▸ call_tupN
theorem k_tupleT : CallR X (.type "tuple") (cTupT K) := e ▸ call_tupT'
theorem k_list : CallR X (.type "list") (cLst K) := e ▸ call_lstN
theorem k_ixL : IxR X (rIxL K) := e ▸ ix_list
theorem k_ixT : IxR X (rIxT K) := e ▸ ix_tup
theorem k_slL : SlR X (rSlLN K) := e ▸ sl_listN
theorem k_slT : SlR X (rSlA K) := e ▸ sl_tupA
theorem k_catT : OpR X (binaryOp .Add) (rCatA K) := e ▸ op_catA
theorem k_eqD (hu : X.A.units + 64 < cLine) : OpR X (compareOp .Eq) (rEqD K) := e ▸ op_eqD hu
theorem k_neD (hu : X.A.units + 64 < cLine) : OpR X (compareOp .NotEq) (rNeD K) := e ▸ op_neD hu
theorem k_in : OpR X (compareOp .In) (rIn K false) := e ▸ op_in_seq
theorem k_notIn : OpR X (compareOp .NotIn) (rIn K true) := e ▸ op_notIn_seq
theorem k_ilist {tg l : Expr} {tl : TE} (hl : PE X l tl) : PI X tg l (iList K tl) := e ▸ pi_list hl
theorem k_itup {tg l : Expr} {tl : TE} (hl : PE X l tl) : PI X tg l (iTup K tl) := e ▸ pi_tup hl
theorem k_gtup {es : List Expr} {k : Nat} {t : TGs} {n : Nat} {pos : Pos} (hc : X.calm = true) (h : PGs X es t)
    (hn : (assignEach es X.env).length = n := by rfl) (hst : (assignEach es X.env).findIdx? (·.1) = none := by rfl) : PG X (.Tuple es k pos) (gTup K n t) := e ▸ pg_tup hc h hn hst
theorem k_bm {T id : String} {name : Str} {o ee : Expr} {es : List Expr} {apos cpos : Pos} {r : V → List V → Hp → VK → Prop} {to : TE} {t : TA} (pa : PlainAttrs T) (slot : Slot T name id) (hty : typeOf (.builtin id) = pure (.type "method_descriptor")) (hm : MtR X id r) (ho : PE X o to) (ha : PA X (ee :: es) t)
    (hbase : attributeBase o name X.env (eval o X.env) = eval o X.env := by rfl)
    (hfew : ((backTo cpos (starEach (ee :: es) X.env)).all (fun x => !x.1) && (backToKw cpos (keywordEach [] X.env)).all (fun x => x.1.isSome)
      && decide ((ee :: es).length + ([] : List Keyword).length + (if ([] : List Keyword).isEmpty then 0 else 1) < 30)) = true := by rfl)
    (hline : (apos.endLine == cpos.line) = true := by rfl) (hs : starEach (ee :: es) X.env = (false, eval ee X.env) :: starEach es X.env := by rfl) (hplain : (backTo cpos (starEach es X.env)).any (·.1) = false := by rfl) :
    PE X (.Call (.Attribute o name apos) (ee :: es) [] cpos) (tBM K T r to t) := e ▸ pe_bm pa slot hty hm ho ha hbase hfew hline hs hplain
end
end Fz
/-! ### comprehensions: what each element is, of which every heap that goes on tells the same -/
namespace Fz
open PySem L2
/-- T holds of a value as long as the tuples stay -/
def Mon (T : Nat → V → Hp → Prop) : Prop := ∀ i v H1 H2, T i v H1 → Tu H1 H2 → T i v H2
section
variable {K : PySem.W.Frag} {σ : L2.St} {H : Hp} {Q : VK} {te tl : TE} {g : TG} {vs : List Nat} {a p : Addr} {xs : List V}
def LcT (T : Nat → V → Hp → Prop) (n : Nat) (acc : List V) (H : Hp) : Prop := acc.length = n ∧ ∀ (j : Nat) v, acc[j]? = some v → T j v H
theorem LcT.nil {T : Nat → V → Hp → Prop} {H : Hp} : LcT T 0 [] H := ⟨rfl, fun j v e => by simp at e⟩
theorem LcT.mono {T : Nat → V → Hp → Prop} (m : Mon T) {n : Nat} {acc : List V} {H H' : Hp} (h : LcT T n acc H) (t : Tu H H') : LcT T n acc H' := ⟨h.1, fun j v e => m j v _ _ (h.2 j v e) t⟩
theorem LcT.snoc {T : Nat → V → Hp → Prop} {n : Nat} {acc : List V} {H : Hp} {v : V} (h : LcT T n acc H) (t : T n v H) : LcT T (n + 1) (acc ++ [v]) H := by
  refine ⟨by simp [h.1], fun j w e => ?_⟩
  by_cases hj : j < acc.length
  · rw [List.getElem?_append_left hj] at e
    exact h.2 j w e
  · rw [List.getElem?_append_right (by omega)] at e
    have hz : j - acc.length = 0 := by
      cases q : j - acc.length with
      | zero => rfl
      | succ m => rw [q] at e; simp at e
    have : j = n := by have := h.1; omega
    rw [hz] at e
    simp at e
    subst e this
    exact t
/-- the state of a comprehension that changes nothing -/
def LcS (H : Hp) (D : Addr) (T : Nat → V → Hp → Prop) (i : Nat) (H' : Hp) : Prop := ∃ acc, H' D = some (.lst acc) ∧ Same H H' ∧ LcT T i acc H'
theorem LcS.start {D : Addr} {T : Nat → V → Hp → Prop} (n : H D = none) : LcS H D T 0 (upd H D (.lst [])) := ⟨[], upd_same, new_same n, LcT.nil⟩
theorem LcS.turn {D : Addr} {T : Nat → V → Hp → Prop} (m : Mon T) (n : H D = none) {i : Nat} {H' : Hp} (h : LcS H D T i H') (hi : i ≤ 100000) {H2 : Hp} {v : V} (s : Same H' H2) (t : T i v H2) :
    ∃ acc, H2 D = some (.lst acc) ∧ acc.length < sizeLine ∧ LcS H D T (i + 1) (upd H2 D (.lst (acc ++ [v]))) := by
  obtain ⟨acc, h1, h2, h3⟩ := h
  have e := s _ _ h1
  have hl := h3.1
  refine ⟨acc, e, Nat.lt_of_le_of_lt (by omega : acc.length ≤ 100000) (by decide), acc ++ [v], upd_same, ?_, ?_⟩
  · exact fun b o q => by rw [upd_ne (ne_of_none q n)]; exact s _ _ (h2 b o q)
  · exact ((h3.mono m (.of s)).snoc t).mono m (Tu.set e _)
/-- .. one that draws from the purse -/
def LcG (p : Addr) (H : Hp) (D : Addr) (T : Nat → V → Hp → Prop) (i : Nat) (H' : Hp) : Prop := ∃ acc, H' D = some (.lst acc) ∧ Go p H H' ∧ LcT T i acc H'
theorem LcG.start {D : Addr} {T : Nat → V → Hp → Prop} (q : Pur H p) (n : H D = none) : LcG p H D T 0 (upd H D (.lst [])) := ⟨[], upd_same, Go.of q (new_same n), LcT.nil⟩
theorem go_set {p D : Addr} {H H' : Hp} {ys : List V} (q : Pur H p) (n : H D = none) (h : Go p H H') (e : H' D = some (.lst ys)) (zs : List V) : Go p H (upd H' D (.lst zs)) := by
  have nd : D ≠ p := q.ne n
  refine ⟨fun b o r nb => ?_, fun b o r nb => ?_, ?_⟩
  · rw [upd_ne (ne_of_none r n)]; exact h.keep b o r nb
  · rw [upd_ne (ne_of_none r n)]; exact h.tu b o r nb
  · obtain ⟨a, b, r, z⟩ := h.pur
    exact ⟨a, b, by rw [upd_ne nd.symm]; exact r, z⟩
theorem LcG.turn {D : Addr} {T : Nat → V → Hp → Prop} (m : Mon T) (q : Pur H p) (n : H D = none) {i : Nat} {H' : Hp} (h : LcG p H D T i H') (hi : i ≤ 100000) {H2 : Hp} {v : V} (s : Go p H' H2) (t : T i v H2) :
    ∃ acc, H2 D = some (.lst acc) ∧ acc.length < sizeLine ∧ LcG p H D T (i + 1) (upd H2 D (.lst (acc ++ [v]))) := by
  obtain ⟨acc, h1, h2, h3⟩ := h
  have e := s.keep _ _ h1 (q.ne n)
  have hl := h3.1
  refine ⟨acc, e, Nat.lt_of_le_of_lt (by omega : acc.length ≤ 100000) (by decide), acc ++ [v], upd_same, ?_, ?_⟩
  · exact go_set q n (h2.trans s) e _
  · exact ((h3.mono m s.tu).snoc t).mono m (Tu.set e _)
/-- [te for g in tuple] -/
theorem w_lcT (T : Nat → V → Hp → Prop) (m : Mon T) (hx : SqT K H a xs) (hz : xs.length ≤ 100000)
    (turn : ∀ i x H', xs[i]? = some x → Same H H' → ∀ Q' : VK, (∀ v H2, Same H' H2 → T i v H2 → Q' v H2) → g x (wipe σ vs) H' fun σ2 H2 => wipe σ2 vs = wipe σ vs ∧ te σ2 H2 Q')
    (k : ∀ D H' acc, H D = none → Same H H' → H' D = some (.lst acc) → LcT T xs.length acc H' → Q (.ref D) H') (tl : TE) (htl : ∀ R : V → Hp → Prop, R (.ref a) H → tl σ H R) : tLc (iTup K tl) g tYes te vs σ H Q := by
  refine htl _ ⟨a, rfl, ⟨_, hx⟩, fun D n => ?_⟩
  refine lc_tup (K := K) (a := a) (xs := xs) (LcS H D T) (LcS.start n) (fun i H' _ ⟨_, _, s, _⟩ => same_tup s hx) (fun i x H' hi h => ?_) (fun H' ⟨acc, h1, h2, h3⟩ => k D H' acc n h2 h1 h3)
  have hil : i < xs.length := (List.getElem?_eq_some_iff.mp hi).1
  obtain ⟨_, _, s, _⟩ := id h
  exact turn i x H' hi s _ fun v H2 s2 t => LcS.turn m n h (by omega) s2 t
/-- [te for g in list] -/
theorem w_lcL (T : Nat → V → Hp → Prop) (m : Mon T) (hx : SqL K H a xs) (hz : xs.length ≤ 100000)
    (turn : ∀ i x H', xs[i]? = some x → Same H H' → ∀ Q' : VK, (∀ v H2, Same H' H2 → T i v H2 → Q' v H2) → g x (wipe σ vs) H' fun σ2 H2 => wipe σ2 vs = wipe σ vs ∧ te σ2 H2 Q')
    (k : ∀ D H' acc, H D = none → Same H H' → H' D = some (.lst acc) → LcT T xs.length acc H' → Q (.ref D) H') (tl : TE) (htl : ∀ R : V → Hp → Prop, R (.ref a) H → tl σ H R) : tLc (iList K tl) g tYes te vs σ H Q := by
  refine htl _ ⟨a, rfl, ⟨_, hx⟩, fun D n => ?_⟩
  refine lc_list (K := K) (a := a) (xs := xs) (LcS H D T) (LcS.start n) (fun i H' _ ⟨_, _, s, _⟩ => s.seq hx) (fun i x H' hi h => ?_) (fun H' ⟨acc, h1, h2, h3⟩ => k D H' acc n h2 h1 h3)
  have hil : i < xs.length := (List.getElem?_eq_some_iff.mp hi).1
  obtain ⟨_, _, s, _⟩ := id h
  exact turn i x H' hi s _ fun v H2 s2 t => LcS.turn m n h (by omega) s2 t
/-- [te for g in range(n)] -/
theorem w_lcR (n : Int) (T : Nat → V → Hp → Prop) (m : Mon T) (hz : n ≤ 100000)
    (turn : ∀ (i : Nat) H', (i : Int) < n → Same H H' → ∀ Q' : VK, (∀ v H2, Same H' H2 → T i v H2 → Q' v H2) → g (.int (0 + i)) (wipe σ vs) H' fun σ2 H2 => wipe σ2 vs = wipe σ vs ∧ te σ2 H2 Q')
    (k : ∀ D H' acc, H D = none → Same H H' → H' D = some (.lst acc) → LcT T n.toNat acc H' → Q (.ref D) H') (tl : TA) (hn : -1000 ≤ n) (htl : ∀ R : List V → Hp → Prop, R [.int n] H → tl σ H R) : tLc (iRng1 tl) g tYes te vs σ H Q := by
  refine htl _ ⟨n, rfl, by omega, by omega, fun D hD => ?_⟩
  refine lc_range (lo := 0) (n := n.toNat) (LcS H D T) (LcS.start hD) (fun i H' hi h => ?_) (fun H' ⟨acc, h1, h2, h3⟩ => k D H' acc hD h2 h1 h3)
  obtain ⟨_, _, s, _⟩ := id h
  exact turn i H' (by omega) s _ fun v H2 s2 t => LcS.turn m hD h (by omega) s2 t
/-- the same, drawing -/
theorem w_lgR (n : Int) (T : Nat → V → Hp → Prop) (m : Mon T) (q : Pur H p) (hz : n ≤ 100000)
    (turn : ∀ (i : Nat) H', (i : Int) < n → Go p H H' → ∀ Q' : VK, (∀ v H2, Go p H' H2 → T i v H2 → Q' v H2) → g (.int (0 + i)) (wipe σ vs) H' fun σ2 H2 => wipe σ2 vs = wipe σ vs ∧ te σ2 H2 Q')
    (k : ∀ D H' acc, H D = none → Go p H H' → H' D = some (.lst acc) → LcT T n.toNat acc H' → Q (.ref D) H') (tl : TA) (hn : -1000 ≤ n) (htl : ∀ R : List V → Hp → Prop, R [.int n] H → tl σ H R) : tLc (iRng1 tl) g tYes te vs σ H Q := by
  refine htl _ ⟨n, rfl, by omega, by omega, fun D hD => ?_⟩
  refine lc_range (lo := 0) (n := n.toNat) (LcG p H D T) (LcG.start q hD) (fun i H' hi h => ?_) (fun H' ⟨acc, h1, h2, h3⟩ => k D H' acc hD h2 h1 h3)
  obtain ⟨_, _, s, _⟩ := id h
  exact turn i H' (by omega) s _ fun v H2 s2 t => LcG.turn m q hD h (by omega) s2 t
theorem w_lgL (T : Nat → V → Hp → Prop) (m : Mon T) (q : Pur H p) (hx : SqL K H a xs) (na : a ≠ p) (hz : xs.length ≤ 100000)
    (turn : ∀ i x H', xs[i]? = some x → Go p H H' → ∀ Q' : VK, (∀ v H2, Go p H' H2 → T i v H2 → Q' v H2) → g x (wipe σ vs) H' fun σ2 H2 => wipe σ2 vs = wipe σ vs ∧ te σ2 H2 Q')
    (k : ∀ D H' acc, H D = none → Go p H H' → H' D = some (.lst acc) → LcT T xs.length acc H' → Q (.ref D) H') (tl : TE) (htl : ∀ R : V → Hp → Prop, R (.ref a) H → tl σ H R) : tLc (iList K tl) g tYes te vs σ H Q := by
  refine htl _ ⟨a, rfl, ⟨_, hx⟩, fun D n => ?_⟩
  refine lc_list (K := K) (a := a) (xs := xs) (LcG p H D T) (LcG.start q n) (fun i H' _ ⟨_, _, s, _⟩ => s.keep.seq hx na) (fun i x H' hi h => ?_) (fun H' ⟨acc, h1, h2, h3⟩ => k D H' acc n h2 h1 h3)
  have hil : i < xs.length := (List.getElem?_eq_some_iff.mp hi).1
  obtain ⟨_, _, s, _⟩ := id h
  exact turn i x H' hi s _ fun v H2 s2 t => LcG.turn m q n h (by omega) s2 t
theorem w_lgT (T : Nat → V → Hp → Prop) (m : Mon T) (q : Pur H p) (hx : SqT K H a xs) (hz : xs.length ≤ 100000)
    (turn : ∀ i x H', xs[i]? = some x → Go p H H' → ∀ Q' : VK, (∀ v H2, Go p H' H2 → T i v H2 → Q' v H2) → g x (wipe σ vs) H' fun σ2 H2 => wipe σ2 vs = wipe σ vs ∧ te σ2 H2 Q')
    (k : ∀ D H' acc, H D = none → Go p H H' → H' D = some (.lst acc) → LcT T xs.length acc H' → Q (.ref D) H') (tl : TE) (htl : ∀ R : V → Hp → Prop, R (.ref a) H → tl σ H R) : tLc (iTup K tl) g tYes te vs σ H Q := by
  refine htl _ ⟨a, rfl, ⟨_, hx⟩, fun D n => ?_⟩
  refine lc_tup (K := K) (a := a) (xs := xs) (LcG p H D T) (LcG.start q n) (fun i H' _ ⟨_, _, s, _⟩ => s.tu.tup hx) (fun i x H' hi h => ?_) (fun H' ⟨acc, h1, h2, h3⟩ => k D H' acc n h2 h1 h3)
  have hil : i < xs.length := (List.getElem?_eq_some_iff.mp hi).1
  obtain ⟨_, _, s, _⟩ := id h
  exact turn i x H' hi s _ fun v H2 s2 t => LcG.turn m q n h (by omega) s2 t
end
/-- the elements are those of a function -/
theorem LcT.map {α : Type} (mk : α → V) (h : Nat → α) {n : Nat} {acc : List V} {H : Hp} (l : LcT (fun i v _ => v = mk (h i)) n acc H) : acc = ((List.range n).map h).map mk := by
  apply List.ext_getElem?
  intro j
  by_cases hj : j < n
  · have h1 : j < acc.length := by rw [l.1]; exact hj
    have e := l.2 j acc[j] (List.getElem?_eq_getElem h1)
    rw [List.getElem?_eq_getElem h1, e]
    simp [hj]
  · rw [List.getElem?_eq_none (by rw [l.1]; omega), List.getElem?_eq_none (by simp; omega)]
theorem LcT.mapL {α : Type} {mk : α → V} {l : List α} {acc : List V} {H : Hp} (t : LcT (fun i v _ => ∃ x, l[i]? = some x ∧ v = mk x) l.length acc H) : acc = l.map mk := by
  apply List.ext_getElem?
  intro j
  by_cases hj : j < l.length
  · have h1 : j < acc.length := by rw [t.1]; exact hj
    obtain ⟨x, e1, e2⟩ := t.2 j acc[j] (List.getElem?_eq_getElem h1)
    rw [List.getElem?_eq_getElem h1, e2, List.getElem?_map, e1]
    rfl
  · rw [List.getElem?_eq_none (by rw [t.1]; omega), List.getElem?_eq_none (by simp; omega)]
theorem paired_get {α β : Type} {F : α → β → Prop} : ∀ {l₁ : List α} {l₂ : List β} {i : Nat} {x : α}, Paired F l₁ l₂ → l₁[i]? = some x → ∃ y, l₂[i]? = some y ∧ F x y
  | _, _, _, _, .nil, e => by simp at e
  | _, _, 0, _, .cons r _, e => by simp at e; subst e; exact ⟨_, rfl, r⟩
  | _, _, i + 1, x, .cons _ t, e => by
    obtain ⟨y, h1, h2⟩ := paired_get (i := i) (x := x) t (by simpa using e)
    exact ⟨y, by simpa using h1, h2⟩
theorem paired_len {α β : Type} {F : α → β → Prop} {l₁ : List α} {l₂ : List β} (h : Paired F l₁ l₂) : l₁.length = l₂.length := Paired.length h
theorem paired_mono {α β : Type} {F G : α → β → Prop} (m : ∀ a b, F a b → G a b) : ∀ {l₁ : List α} {l₂ : List β}, Paired F l₁ l₂ → Paired G l₁ l₂
  | _, _, .nil => .nil
  | _, _, .cons r t => .cons (m _ _ r) (paired_mono m t)
theorem paired_append {α β : Type} {F : α → β → Prop} : ∀ {a b : List α} {c d : List β}, Paired F a c → Paired F b d → Paired F (a ++ b) (c ++ d)
  | _, _, _, _, .nil, s => s
  | _, _, _, _, .cons r t, s => .cons r (paired_append t s)
theorem paired_take {α β : Type} {F : α → β → Prop} : ∀ {a : List α} {c : List β} (n : Nat), Paired F a c → Paired F (a.take n) (c.take n)
  | _, _, 0, _ => .nil
  | _, _, _ + 1, .nil => .nil
  | _, _, n + 1, .cons r t => .cons r (paired_take n t)
theorem paired_drop {α β : Type} {F : α → β → Prop} : ∀ {a : List α} {c : List β} (n : Nat), Paired F a c → Paired F (a.drop n) (c.drop n)
  | _, _, 0, h => h
  | _, _, _ + 1, .nil => .nil
  | _, _, n + 1, .cons _ t => paired_drop n t
theorem paired_last {α β : Type} {F : α → β → Prop} {a : List α} {c : List β} {y : β} (h : Paired F (a) (c ++ [y])) : ∃ a' x, a = a' ++ [x] ∧ Paired F a' c ∧ F x y := by
  induction c generalizing a with
  | nil =>
    cases h with
    | cons r t => cases t; exact ⟨[], _, rfl, .nil, r⟩
  | cons z c ih =>
    cases h with
    | cons r t =>
      obtain ⟨a', x, rfl, h1, h2⟩ := ih t
      exact ⟨_ :: a', x, rfl, .cons r h1, h2⟩
theorem lct_paired {α : Type} {G : V → α → Hp → Prop} {l : List α} {acc : List V} {H : Hp} (t : LcT (fun i v H => ∃ x, l[i]? = some x ∧ G v x H) l.length acc H) : Paired (fun v x => G v x H) acc l := by
  induction l generalizing acc with
  | nil =>
    have := t.1
    simp at this
    subst this
    exact .nil
  | cons y l ih =>
    cases acc with
    | nil => have := t.1; simp at this
    | cons v acc =>
      obtain ⟨x, e1, e2⟩ := t.2 0 v rfl
      simp at e1
      subst e1
      refine .cons e2 (ih ⟨by have := t.1; simpa using this, fun j w e => ?_⟩)
      obtain ⟨x, q1, q2⟩ := t.2 (j + 1) w (by simpa using e)
      exact ⟨x, by simpa using q1, q2⟩
end Fz

/-! ### a comprehension whose source is read first -/
namespace Fz
open PySem L2
def LcEnd (J : It) (g : TG) (tt : TT) (te : TE) (vs : List Nat) (σ : L2.St) (Q : VK) (H1 : Hp) : Prop := ∀ D, H1 D = none → ∃ W : Nat → Nat → Hp → Prop, (∃ m, W 0 m (upd H1 D (.lst []))) ∧ ∀ i m H, W i m H →
  (J.stop i H ∧ Q (.ref D) H) ∨ (J.go i H ∧ ∃ Nx : Hp → Prop, (∀ H', Nx H' → ∃ m', m' < m ∧ W (i + 1) m' H') ∧ ∀ x H', J.yld i H x H' → g x (wipe σ vs) H' fun σ2 H2 => wipe σ2 vs = wipe σ vs ∧ tt σ2 H2 fun b H3 =>
    if b = true then te σ2 H3 fun y H4 => ∃ acc, H4 D = some (.lst acc) ∧ acc.length < sizeLine ∧ Nx (upd H4 D (.lst (acc ++ [y]))) else Nx H3)
section
variable {K : PySem.W.Frag} {σ : L2.St} {H : Hp} {Q : VK} {te : TE} {g : TG} {vs : List Nat} {a p : Addr} {xs : List V} {wi : TI} {tt : TT}
theorem w_lc (h : wi σ H fun J H1 => LcEnd J g tt te vs σ Q H1) : tLc wi g tt te vs σ H Q := h
theorem lc_L (T : Nat → V → Hp → Prop) (m : Mon T) (hx : SqL K H a xs) (hz : xs.length ≤ 100000)
    (turn : ∀ i x H', xs[i]? = some x → Same H H' → ∀ Q' : VK, (∀ v H2, Same H' H2 → T i v H2 → Q' v H2) → g x (wipe σ vs) H' fun σ2 H2 => wipe σ2 vs = wipe σ vs ∧ te σ2 H2 Q')
    (k : ∀ D H' acc, H D = none → Same H H' → H' D = some (.lst acc) → LcT T xs.length acc H' → Q (.ref D) H') : ∃ a', V.ref a = .ref a' ∧ (∃ xs, SqL K H a' xs) ∧ LcEnd (Itl K a') g tYes te vs σ Q H :=
  w_lcL (K := K) (a := a) T m hx hz turn k (tC (.ref a)) (fun _ r => r)
theorem lc_T (T : Nat → V → Hp → Prop) (m : Mon T) (hx : SqT K H a xs) (hz : xs.length ≤ 100000)
    (turn : ∀ i x H', xs[i]? = some x → Same H H' → ∀ Q' : VK, (∀ v H2, Same H' H2 → T i v H2 → Q' v H2) → g x (wipe σ vs) H' fun σ2 H2 => wipe σ2 vs = wipe σ vs ∧ te σ2 H2 Q')
    (k : ∀ D H' acc, H D = none → Same H H' → H' D = some (.lst acc) → LcT T xs.length acc H' → Q (.ref D) H') : ∃ a', V.ref a = .ref a' ∧ (∃ xs, SqT K H a' xs) ∧ LcEnd (Itt K a') g tYes te vs σ Q H :=
  w_lcT (K := K) (a := a) T m hx hz turn k (tC (.ref a)) (fun _ r => r)
theorem lg_L (T : Nat → V → Hp → Prop) (m : Mon T) (q : Pur H p) (hx : SqL K H a xs) (na : a ≠ p) (hz : xs.length ≤ 100000)
    (turn : ∀ i x H', xs[i]? = some x → Go p H H' → ∀ Q' : VK, (∀ v H2, Go p H' H2 → T i v H2 → Q' v H2) → g x (wipe σ vs) H' fun σ2 H2 => wipe σ2 vs = wipe σ vs ∧ te σ2 H2 Q')
    (k : ∀ D H' acc, H D = none → Go p H H' → H' D = some (.lst acc) → LcT T xs.length acc H' → Q (.ref D) H') : ∃ a', V.ref a = .ref a' ∧ (∃ xs, SqL K H a' xs) ∧ LcEnd (Itl K a') g tYes te vs σ Q H :=
  w_lgL (K := K) (a := a) T m q hx na hz turn k (tC (.ref a)) (fun _ r => r)
theorem lg_T (T : Nat → V → Hp → Prop) (m : Mon T) (q : Pur H p) (hx : SqT K H a xs) (hz : xs.length ≤ 100000)
    (turn : ∀ i x H', xs[i]? = some x → Go p H H' → ∀ Q' : VK, (∀ v H2, Go p H' H2 → T i v H2 → Q' v H2) → g x (wipe σ vs) H' fun σ2 H2 => wipe σ2 vs = wipe σ vs ∧ te σ2 H2 Q')
    (k : ∀ D H' acc, H D = none → Go p H H' → H' D = some (.lst acc) → LcT T xs.length acc H' → Q (.ref D) H') : ∃ a', V.ref a = .ref a' ∧ (∃ xs, SqT K H a' xs) ∧ LcEnd (Itt K a') g tYes te vs σ Q H :=
  w_lgT (K := K) (a := a) T m q hx hz turn k (tC (.ref a)) (fun _ r => r)
theorem lc_R (n : Int) (T : Nat → V → Hp → Prop) (m : Mon T) (hn : -1000 ≤ n) (hz : n ≤ 100000)
    (turn : ∀ (i : Nat) H', (i : Int) < n → Same H H' → ∀ Q' : VK, (∀ v H2, Same H' H2 → T i v H2 → Q' v H2) → g (.int (0 + i)) (wipe σ vs) H' fun σ2 H2 => wipe σ2 vs = wipe σ vs ∧ te σ2 H2 Q')
    (k : ∀ D H' acc, H D = none → Same H H' → H' D = some (.lst acc) → LcT T n.toNat acc H' → Q (.ref D) H') : ∃ j : Int, [V.int n] = [.int j] ∧ -(2 ^ 62) ≤ j ∧ j < 2 ^ 62 ∧ LcEnd (Itr 0 j.toNat) g tYes te vs σ Q H :=
  w_lcR n T m hz turn k (tCons (tC (.int n)) tNil) hn (fun _ r => r)
theorem lg_R (n : Int) (T : Nat → V → Hp → Prop) (m : Mon T) (q : Pur H p) (hn : -1000 ≤ n) (hz : n ≤ 100000)
    (turn : ∀ (i : Nat) H', (i : Int) < n → Go p H H' → ∀ Q' : VK, (∀ v H2, Go p H' H2 → T i v H2 → Q' v H2) → g (.int (0 + i)) (wipe σ vs) H' fun σ2 H2 => wipe σ2 vs = wipe σ vs ∧ te σ2 H2 Q')
    (k : ∀ D H' acc, H D = none → Go p H H' → H' D = some (.lst acc) → LcT T n.toNat acc H' → Q (.ref D) H') : ∃ j : Int, [V.int n] = [.int j] ∧ -(2 ^ 62) ≤ j ∧ j < 2 ^ 62 ∧ LcEnd (Itr 0 j.toNat) g tYes te vs σ Q H :=
  w_lgR n T m q hz turn k (tCons (tC (.int n)) tNil) hn (fun _ r => r)
end
end Fz
/-! ### calls with keywords, and where defaults fill up -/
namespace Fz
open PySem PySem.Spec PyProof.Rows L2
structure Dx (P : Program) (w : World) (K : PySem.W.Frag) (mg : Str → Option Value) (base : Heap) (CX : CXT) (k : Nat) (x : Str) (ps : List Str) (sp : Sp) (fd : FuncData) : Prop where
  ok : FnOk P w K mg base CX k (He.ga K x) fd ps sp
  gl : mg x = some (.ref (He.ga K x))
  kp : PySem.W.keepIn K (.ref (He.ga K x)) = true
section
variable {X : Cx} {CX : CXT} {k n : Nat} {x : Str} {ps ks : List Str} {sp : Sp} {E : XK} {e : Expr} {es : List Expr} {kws : List Keyword} {t tk : TA} {p pos : Pos} {fd : FuncData} {dvs : List V} {gV : List V → List V → List V}
theorem pe_cld (D : Dx X.prog X.w X.K X.mg X.base CX k x ps sp fd) (B : ∃ ds, Vals dvs ds ∧ Binds X.K fd ps ds) (hr : Room k X.A) (hg : Gl X x) (hx : Passes CX X E)
    (ha : PA X (e :: es) t) (hdb : (x == ("__debug__" : Str)) = false := by decide) (he : starEach (e :: es) X.env = (false, eval e X.env) :: starEach es X.env := by rfl)
    (hpl : (backTo pos (starEach es X.env)).any (·.1) = false := by rfl) : PE X (.Call (.Name x p) (e :: es) [] pos) (tCall sp dvs E t) := by
  obtain ⟨ds, hd, b⟩ := B
  exact pe_call D.ok hr hg D.gl D.kp b hd hx ha hdb he hpl
theorem pe_ck (D : Dx X.prog X.w X.K X.mg X.base CX k x ps sp fd) (B : ∃ g, KBn X.K fd ps n ks g gV) (hr : Room k X.A) (hg : Gl X x) (hx : Passes CX X E)
    (ha : PA X (e :: es) t) (hkw : PK X kws tk) (hall : (backToKw pos (keywordEach kws X.env)).all (·.1.isSome) = true := by rfl) (hks : (backToKw pos (keywordEach kws X.env)).filterMap (·.1) = ks := by rfl)
    (hdb : (x == ("__debug__" : Str)) = false := by decide) (he : starEach (e :: es) X.env = (false, eval e X.env) :: starEach es X.env := by rfl)
    (hpl : ((backTo pos (starEach (e :: es) X.env)).any (·.1) || (backToKw pos (keywordEach kws X.env)).any (·.1.isNone)) = false := by rfl) :
    PE X (.Call (.Name x p) (e :: es) kws pos) (tCallN n ks.length sp gV E t tk) := by
  obtain ⟨g, b⟩ := B
  exact pe_callN D.ok hr hg D.gl D.kp b hx ha hkw hall hks hdb he hpl
end
/-- no defaults but keyword-only ones: all keywords are written -/
theorem kbn_of {K : PySem.W.Frag} {x qual : Str} {params : Arguments} {body : List Stmt} {scope : Scope} {kws : List (Str × V)} {f : Addr} {fd : FuncData} {ps : List Str} (F : FunD K x qual params body scope [] kws f fd) (n : Nat) (ks : List Str) (g : {α : Type} → List α → List α → List α)
    (hrel : ∀ {vs zs : List V} {us ws : List Value}, Vals vs us → Vals zs ws → Vals (g vs zs) (g us ws))
    (h : ∀ (kV doc pm : Value) (an : Option Addr) (cdv ct : Value) (us ws : List Value), us.length = n → ws.length = ks.length → bindArgs (PySem.W.fnOf x qual params body scope .none kV doc pm an cdv ct) ⟨us, ks.zip ws⟩ = pure (ps.zip (g us ws))) :
    ∃ g', KBn K fd ps n ks g' (fun vs zs => g vs zs) := by
  obtain ⟨oc, od, dV, kV, doc, pm, an, cdv, ct, osl, rfl, lk, hcd, hD, hK⟩ := F.ex
  rcases hD with ⟨_, rfl⟩ | ⟨e, _⟩
  · exact ⟨fun us ws => g us ws, fun s us ws _ l1 l2 => .of_eq (h kV doc pm an cdv ct us ws l1 l2), fun r1 r2 => hrel r1 r2⟩
  · exact absurd rfl e
section
variable {σ : L2.St} {H : Hp} {Q : VK} {t tk : TA} {sp : Sp} {E : XK} {gV : List V → List V → List V} {n m : Nat}
theorem w_callN (h : t σ H fun vs H1 => tk σ H1 fun zs H2 => vs.length = n ∧ zs.length = m ∧ sp (gV vs zs) H2 Q E) : tCallN n m sp gV E t tk σ H Q := h
theorem w_lens {vs zs : List V} {Z : Prop} (h1 : vs.length = n) (h2 : zs.length = m) (h : Z) : vs.length = n ∧ zs.length = m ∧ Z := ⟨h1, h2, h⟩
end
end Fz
/-! ### dicts, tuples cut and put behind a list -/
namespace Fz
open PySem PySem.Spec PyProof.Rows L2
theorem PE.le {X : Cx} {e : Expr} {t t' : TE} (h : PE X e t) (m : ∀ σ H Q, t' σ H Q → t σ H Q) : PE X e t' := ⟨fun pins s σ H Q I q => h.run pins s σ H Q I (m _ _ _ q)⟩
def tDNewN : TE := fun _ H Q => NewQ H (.dK []) Q
theorem pe_dnewN {X : Cx} {pos : Pos} : PE X (.Dict [] [] pos) tDNewN := PE.le pe_dnewK fun _ _ _ h p n => NewQ.at h p n
def cLenD : List V → Hp → VK → Prop := fun xs H Q => ∃ a kvs, xs = [V.ref a] ∧ H a = some (.dK kvs) ∧ Q (.int kvs.length) H
theorem call_lenDN {X : Cx} : CallR X (.builtin "len") cLenD := call_lenD
def cListD : List V → Hp → VK → Prop := fun xs H Q => ∃ (a : Addr) (kvs : List (Key × V)), xs = [.ref a] ∧ Rd H a (.dK kvs) ∧ NewQ H (.lst (kvs.map fun kv => kV kv.1)) Q
theorem call_listDN {X : Cx} (hc : X.calm = true) : CallR X (.type "list") cListD := CallR.le (call_listD hc) fun _ _ _ ⟨a, kvs, e, h, q⟩ => ⟨a, kvs, e, h, fun p n => q.at p n⟩
def cDictP (K : PySem.W.Frag) : List V → Hp → VK → Prop := fun xs H Q => ∃ (a : Addr) (ps : List Addr) (kvs : List (Key × V)), xs = [.ref a] ∧ SqL K H a (ps.map V.ref) ∧ Paired (fun p kv => SqT K H p [kV kv.1, kv.2]) ps kvs ∧ NewQ H (.dK (mergeK [] kvs)) Q
theorem k_dictP {X : Cx} {K : PySem.W.Frag} (e : X.K = K) (hc : X.calm = true) : CallR X (.type "dict") (cDictP K) := e ▸ CallR.le (call_dictP hc) fun _ _ _ ⟨a, ps, kvs, e, h, h2, q⟩ => ⟨a, ps, kvs, e, h, h2, fun p n => q.at p n⟩
theorem k_revL {X : Cx} {K : PySem.W.Frag} (e : X.K = K) {ee : Expr} {te : TE} {k : Nat} {p1 p2 p3 pos : Pos} (he : PE X ee te) : PE X (.Subscript ee (.Slice none none (some (.UnaryOp .USub (.Constant (.int 1) k p1) p2)) p3) pos) (tRevL K te) := e ▸ pe_revL he
/-- a tuple cut: the same one, or a new one -/
def rSlTN (K : PySem.W.Frag) : V → Option Int → Option Int → Hp → VK → Prop := fun x lo hi H Q => ∃ a xs, x = .ref a ∧ SqT K H a xs ∧ ∀ b H2, Same H H2 → SqT K H2 b (cutV xs lo hi) → Q (.ref b) H2
theorem k_slTN {X : Cx} {K : PySem.W.Frag} (e : X.K = K) : SlR X (rSlTN K) := e ▸ fun pins s σ H x v vl vu lo hi sl Q I rx hs pl pu ⟨a, xs, e, h, q⟩ => sl_tupA pins s σ H x v vl vu lo hi sl Q I rx hs pl pu ⟨a, xs, e, h, fun ⟨z1, z2⟩ => q a H (Same.refl H) (by
    unfold cutV
    rw [z1, z2, List.drop_zero, Nat.sub_zero, List.take_length]
    exact h), fun _ p n => q p _ (new_same n) (tof upd_same)⟩
/-- xs.extend(a tuple) -/
theorem ext_tup (l : Addr) (items : Array Value) (n : Nat) (b : Addr) (items2 : Array Value) (n2 : Nat) (dd : Option Addr) (sl : Array (Option Value)) (hs0 : ¬(!items.isEmpty && Builtin.List.listTooLong (items.size + items2.size)) = true) (hs1 : items.size ≤ sizeLine) (hs2 : items.size + items2.size ≤ sizeLine + 1) :
    Meets (Builtin.«list.extend» ⟨[.ref l, .ref b], []⟩) (fun _ R s => s.heap.get? l = some { cls := .type "list", dict := none, data := .seq items n, slots := #[] } ∧ s.heap.get? b = some ⟨.type "tuple", dd, .seq items2 n2, sl⟩ ∧ R (.ok (.ret Value.none)) { s with heap := s.heap.update l (Obj.mapSeq fun x => x ++ items2), toks := s.toks }) :=
  .of_wp fun prog w A R s h => by
    obtain ⟨hp, g, d, tk, os⟩ := s
    obtain ⟨hl, hb, h⟩ := h
    have f1 := AutoSeq1.idx_int
    have f2 := AutoSeq1.sub_tuple_tuple
    have f3 := AutoSeq1.sub_list_list
    have f4 := AutoSeq1.sub_tuple_list
    have f5 := AutoSeq1.sub_list_tuple
    have hz' : (items ++ items2).size ≤ sizeLine + 1 := by rw [Array.size_append]; exact hs2
    wp_walk using (wpAny_updateSeq hl rfl (hz := hs1) (_hz' := hz')), wpAny_loadPart' hl, wpAny_loadPart' hb
    exact ⟨_, rfl, h⟩
def rExtT (K : PySem.W.Frag) : V → List V → Hp → VK → Prop := fun x vs H Q => ∃ l b xs zs, x = .ref l ∧ vs = [.ref b] ∧ H l = some (.lst xs) ∧ SqT K H b zs ∧ xs.length + zs.length ≤ sizeLine ∧ ∀ H2, But l H H2 → H2 l = some (.lst (xs ++ zs)) → Q .non H2
theorem mt_extT {X : Cx} : MtR X "list.extend" (rExtT X.K) := by
  intro pins s σ H x vs v us Q I rx rv ⟨l, b, xs, zs, e1, e2, hH, hB, hz, q⟩
  subst e1 e2
  cases rx
  obtain ⟨u, rfl, ru⟩ := rv.one
  cases ru
  obtain ⟨z, its, n, r, hl, e⟩ := I.lstM hH
  obtain ⟨its2, r2, ⟨⟨oc, od, dt, sl⟩, g1, g2, n2, g3⟩, _⟩ := I.tuple hB
  simp only at g2 g3
  subst g2 g3
  have hl2 := r2.length
  have hsz : its.toArray.size + its2.toArray.size ≤ sizeLine := by rw [List.size_toArray, List.size_toArray]; omega
  have hlong : ¬ (!its.toArray.isEmpty && Builtin.List.listTooLong (its.toArray.size + its2.toArray.size)) = true := by rw [notLongL hsz, Bool.and_false]; exact Bool.false_ne_true
  refine call_meets F.slot_list_extend ⟨_, e, rfl⟩ F.entry_list_extend (F.args_list_extend_2 _ _) (ext_tup l its.toArray n b its2.toArray n2 od sl hlong (by rw [List.size_toArray]; omega) (by omega)) ⟨e, g1, ?_⟩
  exact ⟨.non, _, I.lset (its' := its ++ its2) hH e (by simp) (r.append r2) (by rw [List.length_append]; omega), rfl, q _ But.set upd_same⟩
theorem k_extT {X : Cx} {K : PySem.W.Frag} (e : X.K = K) : MtR X "list.extend" (rExtT K) := e ▸ mt_extT
section
variable {K : PySem.W.Frag} {σ : L2.St} {H : Hp} {Q : VK} {D : Ends} {td ty tv tx te : TE} {xs zs : List V} {a b p l d : Addr}
theorem w_dnew (h : NewQ H (.dK []) Q) : tDNewN σ H Q := h
theorem w_dgetU (h : td σ H fun x H1 => ty σ H1 fun y H2 => ∃ a v, x = .ref a ∧ DGet H2 a y (some v) ∧ Q v H2) : tDGet td ty σ H Q := h
theorem w_dget2 (h : td σ H fun x H1 => ∃ a, x = .ref a ∧ IsD H1 a ∧ ty σ H1 fun y H2 => tx σ H2 fun z H3 => ∃ o, DGet H3 a y o ∧ Q (o.getD z) H3) : tDGet2 td ty tx σ H Q := h
theorem w_isD {kvs : List (Key × V)} {R : Addr → Prop} (e : H d = some (.dK kvs)) (h : R d) : ∃ a, V.ref d = .ref a ∧ IsD H a ∧ R a := ⟨d, rfl, .inl ⟨kvs, .inl e⟩, h⟩
theorem w_dput (h : tv σ H fun v H1 => td σ H1 fun x H2 => ty σ H2 fun y H3 => ∃ a H4, x = .ref a ∧ DPut H3 a y v H4 ∧ D.nx σ H4) : sDPut td ty tv D σ H := h
theorem w_dputI {kvs : List (Key × V)} {n : Int} {v : V} {R : Hp → Prop} (e : H d = some (.dK kvs)) (hl : kvs.length < sizeLine) (h : ∀ H2, But d H H2 → H2 d = some (.dK (putK kvs (Sum.inl n) v)) → R H2) : ∃ a H4, V.ref d = .ref a ∧ DPut H a (.int n) v H4 ∧ R H4 := ⟨d, _, rfl, DPut.k (k := Sum.inl n) e hl, h _ But.set upd_same⟩
theorem w_lenD {kvs : List (Key × V)} (e : H d = some (.dK kvs)) (h : Q (.int kvs.length) H) : cLenD [.ref d] H Q := ⟨d, kvs, rfl, e, h⟩
theorem w_listD {kvs : List (Key × V)} (e : H d = some (.dK kvs)) (h : NewQ H (.lst (kvs.map fun kv => kV kv.1)) Q) : cListD [.ref d] H Q := ⟨d, kvs, rfl, .inl e, h⟩
theorem w_revU (h : te σ H fun x H1 => ∃ a xs, x = .ref a ∧ SqL K H1 a xs ∧ ∀ p, H1 p = none → Q (.ref p) (upd H1 p (.lst xs.reverse))) : tRevL K te σ H Q := h
theorem w_slT {lo hi : Option Int} (hs : SqT K H p xs) (h : ∀ b H2, Same H H2 → SqT K H2 b (cutV xs lo hi) → Q (.ref b) H2) : rSlTN K (.ref p) lo hi H Q := ⟨p, xs, rfl, hs, h⟩
theorem w_extT (hp : H p = some (.lst xs)) (hb : SqT K H b zs) (hl : xs.length + zs.length ≤ sizeLine) (h : ∀ H2, But p H H2 → H2 p = some (.lst (xs ++ zs)) → Q .non H2) : rExtT K (.ref p) [.ref b] H Q := ⟨p, b, xs, zs, rfl, rfl, hp, hb, hl, h⟩
/-- a heap behind a new object, as a letter -/
theorem new_as {H : Hp} {p : Addr} {o : HO} {Z : Hp → Prop} (n : H p = none) (h : ∀ H2, Same H H2 → H2 p = some o → Z H2) : Z (upd H p o) := h _ (new_same n) upd_same
end
end Fz
namespace PM
abbrev Part := Int × Int × Int
abbrev Cell := Int × Int

def each1 (p : Part) : List Cell := (List.range p.2.2.toNat).map fun (k : Nat) => (p.1, p.2.1 + (k : Int))
def each (ps : List Part) : List Cell := ps.flatMap each1
def glue (acc : List Part) (p : Part) : List Part :=
  match acc.getLast? with
  | some q => if q.1 = p.1 ∧ q.2.1 + q.2.2 = p.2.1 then acc.dropLast ++ [(p.1, q.2.1, q.2.2 + p.2.2)] else acc ++ [p]
  | none => acc ++ [p]
def asOne (ps : List Part) : List Part := ps.foldl glue []
def runs (row : List Cell) : List Part := row.foldl (fun acc c => glue acc (c.1, c.2, 1)) []
def aheadOf : List Part → Int → List Part
  | [], _ => []
  | p :: r, n => (if 0 < n then [(p.1, p.2.1, if n < p.2.2 then n else p.2.2)] else []) ++ aheadOf r (n - p.2.2)
def fromOn : List Part → Int → List Part
  | [], _ => []
  | p :: r, n => (if n < p.2.2 then [(p.1, p.2.1 + (if n > 0 then n else 0), p.2.2 - (if n > 0 then n else 0))] else []) ++ fromOn r (n - p.2.2)
def sizeOf (ps : List Part) : Int := (ps.map (·.2.2)).sum
def Good (ps : List Part) : Prop := ∀ p ∈ ps, 0 < p.1 ∧ 0 ≤ p.2.1 ∧ 0 < p.2.2
def Pos (ps : List Part) : Prop := ∀ p ∈ ps, 0 < p.2.2
def GoodC (row : List Cell) : Prop := ∀ c ∈ row, 0 < c.1 ∧ 0 ≤ c.2
def put (ps more : List Part) (n : Int) : List Part := asOne (aheadOf ps n ++ more ++ fromOn ps (n + sizeOf more))
def cut (ps : List Part) (n : Int) : List Part := asOne (aheadOf ps n)

theorem Good.pos {ps : List Part} (h : Good ps) : Pos ps := fun p hp => (h p hp).2.2
theorem each_append (a b : List Part) : each (a ++ b) = each a ++ each b := by simp [each]
theorem each_nil : each [] = [] := rfl
theorem each_cons (p : Part) (r : List Part) : each (p :: r) = each1 p ++ each r := by simp [each]
theorem each_one (p : Part) : each [p] = each1 p := by simp [each]
theorem each1_length (p : Part) : (each1 p).length = p.2.2.toNat := by simp [each1]
theorem each1_add (a b l m : Int) (hl : 0 ≤ l) (hm : 0 ≤ m) : each1 (a, b, l + m) = each1 (a, b, l) ++ each1 (a, b + l, m) := by
  unfold each1
  have e : (l + m).toNat = l.toNat + m.toNat := by omega
  simp only [e, List.range_add, List.map_append, List.map_map]
  congr 1
  apply List.map_congr_left
  intro k _
  simp only [Function.comp]
  congr 1
  omega
theorem each1_take (p : Part) (n : Nat) : (each1 p).take n = each1 (p.1, p.2.1, if (n : Int) < p.2.2 then (n : Int) else p.2.2) := by
  unfold each1
  rw [← List.map_take, List.take_range]
  congr 2
  simp only
  split <;> omega
theorem glue_nil (p : Part) : glue [] p = [p] := rfl
theorem glue_snoc (acc : List Part) (q p : Part) : glue (acc ++ [q]) p = if q.1 = p.1 ∧ q.2.1 + q.2.2 = p.2.1 then acc ++ [(p.1, q.2.1, q.2.2 + p.2.2)] else acc ++ [q] ++ [p] := by
  unfold glue
  simp
theorem glue_form (acc : List Part) (p : Part) : ∃ acc' g l, glue acc p = acc' ++ [(p.1, g, l)] ∧ g + l = p.2.1 + p.2.2 ∧ ∀ m : Int, glue acc (p.1, p.2.1, p.2.2 + m) = acc' ++ [(p.1, g, l + m)] := by
  rcases List.eq_nil_or_concat acc with rfl | ⟨a, q, rfl⟩
  · exact ⟨[], p.2.1, p.2.2, rfl, rfl, fun _ => rfl⟩
  · rw [List.concat_eq_append]
    by_cases h : q.1 = p.1 ∧ q.2.1 + q.2.2 = p.2.1
    · refine ⟨a, q.2.1, q.2.2 + p.2.2, ?_, ?_, fun m => ?_⟩
      · rw [glue_snoc, if_pos h]
      · omega
      · rw [glue_snoc]
        simp only
        rw [if_pos h, Int.add_assoc]
    · refine ⟨a ++ [q], p.2.1, p.2.2, ?_, rfl, fun m => ?_⟩
      · rw [glue_snoc, if_neg h]
      · rw [glue_snoc]
        simp only
        rw [if_neg h]
theorem glue_two (acc : List Part) (a b l m : Int) : glue (glue acc (a, b, l)) (a, b + l, m) = glue acc (a, b, l + m) := by
  obtain ⟨acc', g, k, e1, e2, e3⟩ := glue_form acc (a, b, l)
  rw [e1, glue_snoc]
  rw [if_pos ⟨rfl, e2⟩]
  exact (e3 m).symm
theorem runs1 (acc : List Part) (a b : Int) : ∀ n : Nat, (each1 (a, b, ((n + 1 : Nat) : Int))).foldl (fun acc c => glue acc (c.1, c.2, 1)) acc = glue acc (a, b, ((n + 1 : Nat) : Int))
  | 0 => by simp [each1, List.range_succ]
  | n + 1 => by
    have e : (((n + 1 + 1 : Nat)) : Int) = ((n + 1 : Nat) : Int) + 1 := by omega
    rw [e, each1_add _ _ _ _ (by omega) (by omega), List.foldl_append, runs1 acc a b n]
    have e1 : each1 (a, b + ((n + 1 : Nat) : Int), 1) = [(a, b + ((n + 1 : Nat) : Int))] := by simp [each1, List.range_succ]
    rw [e1]
    simp only [List.foldl_cons, List.foldl_nil]
    rw [glue_two]
theorem foldl_each : ∀ (ps : List Part) (acc : List Part), Pos ps → (each ps).foldl (fun acc c => glue acc (c.1, c.2, 1)) acc = ps.foldl glue acc
  | [], _, _ => rfl
  | p :: r, acc, h => by
    rw [each_cons, List.foldl_append, List.foldl_cons]
    have hp : 0 < p.2.2 := h p (List.mem_cons_self ..)
    obtain ⟨a, b, m⟩ := p
    simp only at hp
    have e : m = ((m.toNat - 1 + 1 : Nat) : Int) := by omega
    rw [e, runs1]
    exact foldl_each r _ fun q hq => h q (List.mem_cons_of_mem _ hq)
theorem asOne_runs {ps : List Part} (h : Pos ps) : asOne ps = runs (each ps) := (foldl_each ps [] h).symm
theorem each_glue {acc : List Part} (h : Pos acc) (p : Part) (hp : 0 < p.2.2) : each (glue acc p) = each acc ++ each1 p ∧ Pos (glue acc p) := by
  rcases List.eq_nil_or_concat acc with rfl | ⟨a, q, rfl⟩
  · refine ⟨by simp [glue, each], fun x hx => ?_⟩
    simp [glue] at hx
    rw [hx]; exact hp
  · rw [List.concat_eq_append] at *
    have hq : 0 < q.2.2 := h q (by simp)
    rw [glue_snoc]
    by_cases e : q.1 = p.1 ∧ q.2.1 + q.2.2 = p.2.1
    · rw [if_pos e]
      constructor
      · rw [each_append, each_append, each_one, each_one, each1_add _ _ _ _ (Int.le_of_lt hq) (Int.le_of_lt hp), List.append_assoc]
        obtain ⟨q1, q2, q3⟩ := q
        obtain ⟨p1, p2, p3⟩ := p
        simp only at e
        obtain ⟨rfl, rfl⟩ := e
        rfl
      · intro x hx
        rw [List.mem_append] at hx
        rcases hx with hx | hx
        · exact h x (by simp [hx])
        · rw [List.mem_singleton] at hx
          subst hx
          simp only
          omega
    · rw [if_neg e]
      constructor
      · rw [each_append, each_one]
      · intro x hx
        rw [List.mem_append] at hx
        rcases hx with hx | hx
        · exact h x hx
        · rw [List.mem_singleton] at hx
          subst hx
          exact hp
theorem each_runs_aux : ∀ (row : List Cell) (acc : List Part), Pos acc → each (row.foldl (fun acc c => glue acc (c.1, c.2, 1)) acc) = each acc ++ row ∧ Pos (row.foldl (fun acc c => glue acc (c.1, c.2, 1)) acc)
  | [], acc, h => by simpa using h
  | c :: r, acc, h => by
    obtain ⟨e1, e2⟩ := each_glue h (c.1, c.2, 1) (by show (0:Int) < 1; decide)
    obtain ⟨e3, e4⟩ := each_runs_aux r _ e2
    refine ⟨?_, e4⟩
    rw [List.foldl_cons, e3, e1]
    simp [each1, List.range_succ]
theorem each_runs (row : List Cell) : each (runs row) = row := by
  have h := (each_runs_aux row [] (fun _ h => by cases h)).1
  rw [each_nil, List.nil_append] at h
  exact h
theorem pos_runs (row : List Cell) : Pos (runs row) := (each_runs_aux row [] (fun _ h => by cases h)).2
theorem good_glue {acc : List Part} (h : Good acc) (p : Part) (hp : 0 < p.1 ∧ 0 ≤ p.2.1 ∧ 0 < p.2.2) : Good (glue acc p) := by
  rcases List.eq_nil_or_concat acc with rfl | ⟨a, q, rfl⟩
  · intro x hx
    simp [glue] at hx
    rw [hx]; exact hp
  · rw [List.concat_eq_append] at *
    have hq := h q (by simp)
    rw [glue_snoc]
    by_cases e : q.1 = p.1 ∧ q.2.1 + q.2.2 = p.2.1
    · rw [if_pos e]
      intro x hx
      rw [List.mem_append] at hx
      rcases hx with hx | hx
      · exact h x (by simp [hx])
      · rw [List.mem_singleton] at hx
        subst hx
        simp only
        omega
    · rw [if_neg e]
      intro x hx
      rw [List.mem_append] at hx
      rcases hx with hx | hx
      · exact h x hx
      · rw [List.mem_singleton] at hx
        subst hx
        exact hp
theorem good_foldl : ∀ (ps acc : List Part), Good acc → Good ps → Good (ps.foldl glue acc)
  | [], _, h, _ => h
  | p :: r, acc, h, hp => good_foldl r _ (good_glue h p (hp p (List.mem_cons_self ..))) fun q hq => hp q (List.mem_cons_of_mem _ hq)
theorem good_asOne {ps : List Part} (h : Good ps) : Good (asOne ps) := good_foldl ps [] (fun _ h => by cases h) h
theorem good_runs_aux : ∀ (row : List Cell) (acc : List Part), Good acc → GoodC row → Good (row.foldl (fun acc c => glue acc (c.1, c.2, 1)) acc)
  | [], _, h, _ => h
  | c :: r, acc, h, hc => good_runs_aux r _ (good_glue h _ ⟨(hc c (List.mem_cons_self ..)).1, (hc c (List.mem_cons_self ..)).2, by show (0:Int) < 1; decide⟩) fun q hq => hc q (List.mem_cons_of_mem _ hq)
theorem good_runs {row : List Cell} (h : GoodC row) : Good (runs row) := good_runs_aux row [] (fun _ h => by cases h) h
theorem goodC_each {ps : List Part} (h : Good ps) : GoodC (each ps) := by
  intro c hc
  unfold each at hc
  rw [List.mem_flatMap] at hc
  obtain ⟨p, hp, hc⟩ := hc
  unfold each1 at hc
  rw [List.mem_map] at hc
  obtain ⟨k, _, rfl⟩ := hc
  have := h p hp
  simp only
  omega
theorem each_length : ∀ {ps : List Part}, Pos ps → ((each ps).length : Int) = sizeOf ps
  | [], _ => rfl
  | p :: r, h => by
    have hp : 0 < p.2.2 := h p (List.mem_cons_self ..)
    have ih := each_length (ps := r) fun q hq => h q (List.mem_cons_of_mem _ hq)
    rw [each_cons, List.length_append, each1_length]
    unfold sizeOf at *
    rw [List.map_cons, List.sum_cons, ← ih]
    omega
theorem sizeOf_nonneg {ps : List Part} (h : Pos ps) : 0 ≤ sizeOf ps := by rw [← each_length h]; omega
theorem each_ahead : ∀ (ps : List Part) (n : Int), Pos ps → each (aheadOf ps n) = (each ps).take n.toNat ∧ Pos (aheadOf ps n)
  | [], n, _ => by simp [aheadOf, each, Pos]
  | p :: r, n, h => by
    have hp : 0 < p.2.2 := h p (List.mem_cons_self ..)
    obtain ⟨i1, i2⟩ := each_ahead r (n - p.2.2) fun q hq => h q (List.mem_cons_of_mem _ hq)
    unfold aheadOf
    rw [each_append, i1, each_cons, List.take_append, each1_length]
    have e2 : (n - p.2.2).toNat = n.toNat - p.2.2.toNat := by omega
    by_cases hn : 0 < n
    · rw [if_pos hn, each_one, each1_take, e2]
      refine ⟨?_, ?_⟩
      · congr 4
        have : (n.toNat : Int) = n := by omega
        rw [this]
      · intro x hx
        rw [List.mem_append] at hx
        rcases hx with hx | hx
        · rw [List.mem_singleton] at hx
          subst hx
          simp only
          split <;> omega
        · exact i2 x hx
    · rw [if_neg hn, e2]
      refine ⟨?_, ?_⟩
      · have : n.toNat = 0 := by omega
        rw [this]
        simp [each]
      · intro x hx
        rw [List.nil_append] at hx
        exact i2 x hx
theorem good_ahead : ∀ (ps : List Part) (n : Int), Good ps → Good (aheadOf ps n)
  | [], _, h => h
  | p :: r, n, h => by
    have hp := h p (List.mem_cons_self ..)
    have i2 := good_ahead r (n - p.2.2) fun q hq => h q (List.mem_cons_of_mem _ hq)
    unfold aheadOf
    intro x hx
    rw [List.mem_append] at hx
    rcases hx with hx | hx
    · by_cases hn : 0 < n
      · rw [if_pos hn, List.mem_singleton] at hx
        subst hx
        simp only
        split <;> omega
      · rw [if_neg hn] at hx; cases hx
    · exact i2 x hx
theorem each1_drop (p : Part) (n : Int) (hn : n < p.2.2) : (each1 p).drop n.toNat = each1 (p.1, p.2.1 + (if n > 0 then n else 0), p.2.2 - (if n > 0 then n else 0)) := by
  by_cases h : n > 0
  · rw [if_pos h]
    have e : each1 p = each1 (p.1, p.2.1, n) ++ each1 (p.1, p.2.1 + n, p.2.2 - n) := by
      rw [← each1_add _ _ _ _ (by omega) (by omega)]
      have q : n + (p.2.2 - n) = p.2.2 := by omega
      rw [q]
    rw [e]
    have l : (each1 (p.1, p.2.1, n)).length = n.toNat := each1_length _
    rw [← l, List.drop_left]
  · rw [if_neg h]
    have : n.toNat = 0 := by omega
    rw [this]
    simp
theorem each_from : ∀ (ps : List Part) (n : Int), Pos ps → each (fromOn ps n) = (each ps).drop n.toNat ∧ Pos (fromOn ps n)
  | [], n, _ => by simp [fromOn, each, Pos]
  | p :: r, n, h => by
    have hp : 0 < p.2.2 := h p (List.mem_cons_self ..)
    obtain ⟨i1, i2⟩ := each_from r (n - p.2.2) fun q hq => h q (List.mem_cons_of_mem _ hq)
    unfold fromOn
    rw [each_append, i1, each_cons, List.drop_append, each1_length]
    have e2 : (n - p.2.2).toNat = n.toNat - p.2.2.toNat := by omega
    by_cases hn : n < p.2.2
    · rw [if_pos hn, each_one, each1_drop _ _ hn, e2]
      refine ⟨rfl, ?_⟩
      intro x hx
      rw [List.mem_append] at hx
      rcases hx with hx | hx
      · rw [List.mem_singleton] at hx
        subst hx
        simp only
        split <;> omega
      · exact i2 x hx
    · rw [if_neg hn, e2]
      refine ⟨?_, ?_⟩
      · have : (each1 p).drop n.toNat = [] := by
          apply List.drop_eq_nil_of_le
          rw [each1_length]
          omega
        rw [this, each_nil]
      · intro x hx
        rw [List.nil_append] at hx
        exact i2 x hx
theorem good_from : ∀ (ps : List Part) (n : Int), Good ps → Good (fromOn ps n)
  | [], _, h => h
  | p :: r, n, h => by
    have hp := h p (List.mem_cons_self ..)
    have i2 := good_from r (n - p.2.2) fun q hq => h q (List.mem_cons_of_mem _ hq)
    unfold fromOn
    intro x hx
    rw [List.mem_append] at hx
    rcases hx with hx | hx
    · by_cases hn : n < p.2.2
      · rw [if_pos hn, List.mem_singleton] at hx
        subst hx
        simp only
        split <;> omega
      · rw [if_neg hn] at hx; cases hx
    · exact i2 x hx
theorem Pos.append {a b : List Part} (ha : Pos a) (hb : Pos b) : Pos (a ++ b) := fun x hx => (List.mem_append.mp hx).elim (ha x) (hb x)
theorem Good.append {a b : List Part} (ha : Good a) (hb : Good b) : Good (a ++ b) := fun x hx => (List.mem_append.mp hx).elim (ha x) (hb x)
/-- what put tells -/
theorem put_runs {ps more : List Part} (h : Pos ps) (hm : Pos more) {n : Nat} : put ps more (n : Int) = runs ((each ps).take n ++ each more ++ (each ps).drop (n + (each more).length)) := by
  unfold put
  obtain ⟨a1, a2⟩ := each_ahead ps n h
  obtain ⟨f1, f2⟩ := each_from ps (n + sizeOf more) h
  rw [asOne_runs (Pos.append (Pos.append a2 hm) f2), each_append, each_append, a1, f1]
  congr 3
  have := each_length hm
  omega
theorem cut_runs {ps : List Part} (h : Pos ps) {n : Nat} : cut ps (n : Int) = runs ((each ps).take n) := by
  unfold cut
  obtain ⟨a1, a2⟩ := each_ahead ps n h
  rw [asOne_runs a2, a1]
  rfl
theorem good_put {ps more : List Part} (h : Good ps) (hm : Good more) (n : Int) : Good (put ps more n) := good_asOne (Good.append (Good.append (good_ahead _ _ h) hm) (good_from _ _ h))
theorem good_cut {ps : List Part} (h : Good ps) (n : Int) : Good (cut ps n) := good_asOne (good_ahead _ _ h)
end PM
namespace PM
def splice (R N : List Cell) (a : Nat) : List Cell := R.take a ++ N ++ R.drop (a + N.length)
theorem put_splice {ps more : List Part} (h : Pos ps) (hm : Pos more) (n : Nat) : put ps more (n : Int) = runs (splice (each ps) (each more) n) := put_runs h hm
theorem splice_length {R N : List Cell} {a : Nat} (h : a ≤ R.length) : (splice R N a).length = max R.length (a + N.length) := by
  unfold splice
  simp only [List.length_append, List.length_take, List.length_drop]
  omega
theorem splice_two {R N : List Cell} {a t : Nat} (h : a ≤ R.length) (ht : t ≤ N.length) : splice (splice R (N.take t) a) (N.drop t) (a + t) = splice R N a := by
  unfold splice
  have l1 : (R.take a).length = a := by simp; omega
  have l2 : (N.take t).length = t := by simp; omega
  have l3 : (R.take a ++ N.take t).length = a + t := by rw [List.length_append, l1, l2]
  have e1 : (R.take a ++ N.take t ++ R.drop (a + (N.take t).length)).take (a + t) = R.take a ++ N.take t := by
    conv => lhs; rw [← l3]
    exact List.take_left
  have e2 : (R.take a ++ N.take t ++ R.drop (a + (N.take t).length)).drop (a + t + (N.drop t).length) = R.drop (a + N.length) := by
    rw [← List.drop_drop]
    have : (R.take a ++ N.take t ++ R.drop (a + (N.take t).length)).drop (a + t) = R.drop (a + (N.take t).length) := by
      conv => lhs; rw [← l3]
      exact List.drop_left
    rw [this, List.drop_drop, l2]
    congr 1
    simp
    omega
  rw [e1, e2]
  have : R.take a ++ N.take t ++ N.drop t = R.take a ++ N := by rw [List.append_assoc, List.take_append_drop]
  rw [this]
theorem splice_over {R N O : List Cell} {a : Nat} (h : a ≤ R.length) (e : O.length = N.length) : splice (splice R O a) N a = splice R N a := by
  unfold splice
  have l1 : (R.take a).length = a := by simp; omega
  have l3 : (R.take a ++ O).length = a + N.length := by rw [List.length_append, l1, e]
  have e1 : (R.take a ++ O ++ R.drop (a + O.length)).take a = R.take a := by
    rw [List.append_assoc]
    conv => lhs; rw [← l1]
    rw [l1]
    exact List.take_left' l1
  have e2 : (R.take a ++ O ++ R.drop (a + O.length)).drop (a + N.length) = R.drop (a + N.length) := by
    rw [e]
    exact List.drop_left' l3
  rw [e1, e2]
theorem splice_back {R : List Cell} {a b : Nat} (h : a ≤ R.length) : splice R ((R.drop a).take b) a = R := by
  unfold splice
  have e : R.drop (a + ((R.drop a).take b).length) = (R.drop a).drop b := by
    rw [List.drop_drop, List.length_take, List.length_drop]
    by_cases hb : b ≤ R.length - a
    · rw [Nat.min_eq_left hb]
    · rw [Nat.min_eq_right (by omega), List.drop_eq_nil_of_le (by omega), List.drop_eq_nil_of_le (by omega)]
  rw [e, List.append_assoc, List.take_append_drop, List.take_append_drop]
theorem splice_end {R N : List Cell} : splice R N R.length = R ++ N := by
  unfold splice
  rw [List.take_length, List.drop_eq_nil_of_le (by omega), List.append_nil]
theorem splice_nil {R : List Cell} {a : Nat} : splice R [] a = R := by
  unfold splice
  simp
theorem goodC_append {a b : List Cell} (ha : GoodC a) (hb : GoodC b) : GoodC (a ++ b) := fun x hx => (List.mem_append.mp hx).elim (ha x) (hb x)
theorem size_le {ps : List Part} (h : ∀ q ∈ ps, q.2.2 ≤ 6) : sizeOf ps ≤ 6 * ps.length := by
  induction ps with
  | nil => simp [sizeOf]
  | cons p r ih =>
    have := ih fun q hq => h q (List.mem_cons_of_mem _ hq)
    have hp := h p (List.mem_cons_self ..)
    unfold sizeOf at *
    simp only [List.map_cons, List.sum_cons, List.length_cons]
    omega
end PM
namespace PM
/-- the cells of parts, by what each piece holds -/
def vals (look : Int → List Int) (ps : List Part) : List Int := ps.flatMap fun p => ((look p.1).drop p.2.1.toNat).take p.2.2.toNat
def val (look : Int → List Int) (c : Cell) : Int := (look c.1).getD c.2.toNat 0
def Fits (look : Int → List Int) (row : List Cell) : Prop := ∀ c ∈ row, 0 ≤ c.2 ∧ c.2 < ((look c.1).length : Int)
theorem vals1 (l : List Int) (f m : Nat) (h : f + m ≤ l.length) : (l.drop f).take m = (List.range m).map fun k => l.getD (f + k) 0 := by
  apply List.ext_getElem
  · simp; omega
  · intro i h1 h2
    simp at h1
    simp [List.getElem?_eq_getElem (show f + i < l.length by omega)]
theorem each_fits {ps : List Part} {look : Int → List Int} (hg : Good ps) (h : Fits look (each ps)) : ∀ p ∈ ps, p.2.1 + p.2.2 ≤ ((look p.1).length : Int) := by
  intro p hp
  have hq := hg p hp
  have hm : (p.1, p.2.1 + ((p.2.2.toNat - 1 : Nat) : Int)) ∈ each ps := by
    unfold each
    rw [List.mem_flatMap]
    refine ⟨p, hp, ?_⟩
    unfold each1
    rw [List.mem_map]
    exact ⟨p.2.2.toNat - 1, by rw [List.mem_range]; omega, rfl⟩
  have := (h _ hm).2
  simp only at this
  omega
theorem vals_each : ∀ {ps : List Part} {look : Int → List Int}, Good ps → Fits look (each ps) → vals look ps = (each ps).map (val look)
  | [], _, _, _ => rfl
  | p :: r, look, hg, h => by
    have hp := each_fits hg h p (List.mem_cons_self ..)
    have hq := hg p (List.mem_cons_self ..)
    have ih := vals_each (ps := r) (look := look) (fun q hq => hg q (List.mem_cons_of_mem _ hq)) (fun c hc => h c (by rw [each_cons, List.mem_append]; exact .inr hc))
    unfold vals at *
    rw [List.flatMap_cons, ih, each_cons, List.map_append, vals1 _ _ _ (by omega)]
    congr 1
    unfold each1 val
    rw [List.map_map]
    apply List.map_congr_left
    intro k _
    simp only [Function.comp]
    congr 1
    omega
theorem vals_len : ∀ (look : Int → List Int) (ps : List Part), Pos ps → ((vals look ps).length : Int) ≤ sizeOf ps
  | _, [], _ => by simp [vals, sizeOf]
  | look, p :: r, h => by
    have := vals_len look r fun q hq => h q (List.mem_cons_of_mem _ hq)
    have hp := h p (List.mem_cons_self ..)
    unfold vals sizeOf at *
    simp only [List.flatMap_cons, List.length_append, List.length_take, List.length_drop, List.map_cons, List.sum_cons]
    omega
theorem mem_size : ∀ {ps : List Part}, Pos ps → ∀ p ∈ ps, p.2.2 ≤ sizeOf ps
  | [], _, _, h => by cases h
  | q :: r, hp, p, h => by
    have h1 := sizeOf_nonneg (ps := r) fun x hx => hp x (List.mem_cons_of_mem _ hx)
    have h2 := hp q (List.mem_cons_self ..)
    rcases List.mem_cons.mp h with e | h
    · subst e
      unfold sizeOf at *
      simp only [List.map_cons, List.sum_cons]
      omega
    · have := mem_size (ps := r) (fun x hx => hp x (List.mem_cons_of_mem _ hx)) p h
      unfold sizeOf at *
      simp only [List.map_cons, List.sum_cons]
      omega
theorem size_nn {ps : List Part} (h : Pos ps) (i : Nat) : sizeOf (ps.take i) ≤ sizeOf ps := by
  have e : sizeOf ps = sizeOf (ps.take i) + sizeOf (ps.drop i) := by
    unfold sizeOf
    rw [← List.sum_append, ← List.map_append, List.take_append_drop]
  have := sizeOf_nonneg (ps := ps.drop i) fun q hq => h q (List.mem_of_mem_drop hq)
  omega
end PM
/-! ### parts in the heap -/
namespace Fz
open PySem L2
def IsP (K : PySem.W.Frag) (H : Hp) (v : V) (p : PM.Part) : Prop := ∃ a, v = .ref a ∧ SqT K H a [.int p.1, .int p.2.1, .int p.2.2]
def IsC (K : PySem.W.Frag) (H : Hp) (v : V) (c : PM.Cell) : Prop := ∃ a, v = .ref a ∧ SqT K H a [.int c.1, .int c.2]
abbrev Ps (K : PySem.W.Frag) (H : Hp) (vs : List V) (ps : List PM.Part) : Prop := Paired (IsP K H) vs ps
abbrev Cs (K : PySem.W.Frag) (H : Hp) (vs : List V) (cs : List PM.Cell) : Prop := Paired (IsC K H) vs cs
/-- a tuple, a list of parts; a list of cells -/
def PsT (K : PySem.W.Frag) (H : Hp) (v : V) (ps : List PM.Part) : Prop := ∃ a vs, v = .ref a ∧ SqT K H a vs ∧ Ps K H vs ps
section
variable {K : PySem.W.Frag} {H H' : Hp} {v : V} {vs : List V} {p : PM.Part} {ps qs : List PM.Part} {c : PM.Cell} {cs : List PM.Cell}
theorem IsP.tu (h : IsP K H v p) (t : Tu H H') : IsP K H' v p := let ⟨a, e, s⟩ := h; ⟨a, e, t.tup s⟩
theorem IsC.tu (h : IsC K H v c) (t : Tu H H') : IsC K H' v c := let ⟨a, e, s⟩ := h; ⟨a, e, t.tup s⟩
theorem ps_tu (h : Ps K H vs ps) (t : Tu H H') : Ps K H' vs ps := paired_mono (fun _ _ z => z.tu t) h
theorem cs_tu (h : Cs K H vs cs) (t : Tu H H') : Cs K H' vs cs := paired_mono (fun _ _ z => z.tu t) h
theorem PsT.tu (h : PsT K H v ps) (t : Tu H H') : PsT K H' v ps := let ⟨a, vs, e, s, q⟩ := h; ⟨a, vs, e, t.tup s, ps_tu q t⟩
theorem PsT.same (h : PsT K H v ps) (t : Same H H') : PsT K H' v ps := h.tu (.of t)
def dP (p : PM.Part) : PyData := .tuple [.int p.1, .int p.2.1, .int p.2.2]
theorem IsP.dp (h : IsP K H v p) : Dp K H v (dP p) := by
  obtain ⟨a, rfl, s⟩ := h
  exact .tup s (.cons (.int _) (.cons (.int _) (.cons (.int _) .nil)))
theorem ps_dp : ∀ {vs : List V} {ps : List PM.Part}, Ps K H vs ps → DpAll K H vs (ps.map dP)
  | _, _, .nil => .nil
  | _, _, .cons r t => .cons r.dp (ps_dp t)
theorem PsT.dp (h : PsT K H v ps) : Dp K H v (.tuple (ps.map dP)) := by
  obtain ⟨a, vs, rfl, s, q⟩ := h
  exact .tup s (ps_dp q)
theorem lay_ps : ∀ ps : List PM.Part, PyData.canLayAll0 (ps.map dP) = true
  | [] => rfl
  | p :: r => by
    rw [List.map_cons, PyData.canLayAll0, lay_ps r]
    rfl
theorem depth_ps : ∀ ps : List PM.Part, PyData.depthAll (ps.map dP) ≤ 1
  | [] => Nat.zero_le _
  | p :: r => by
    rw [List.map_cons, PyData.depthAll]
    have := depth_ps r
    have e : (dP p).depth = 1 := rfl
    rw [e]
    omega
theorem shapedT (ps : List PM.Part) : SeqAt.shaped (.tuple (ps.map dP)) = true := by
  unfold SeqAt.shaped
  rw [PyData.canLay0, lay_ps, PyData.depth]
  have := depth_ps ps
  simp
  omega
theorem shapedL (ps : List PM.Part) : SeqAt.shaped (.list (ps.map dP)) = true := by
  unfold SeqAt.shaped
  rw [PyData.canLay0, lay_ps, PyData.depth]
  have := depth_ps ps
  simp
  omega
theorem eqvAll_ps : ∀ ps qs : List PM.Part, PyData.eqvAll (ps.map dP) (qs.map dP) = decide (ps = qs)
  | [], [] => rfl
  | [], q :: r => rfl
  | p :: r, [] => rfl
  | p :: r, q :: s => by
    rw [List.map_cons, List.map_cons, PyData.eqvAll, eqvAll_ps r s]
    obtain ⟨a, b, c⟩ := p
    obtain ⟨d, e, f⟩ := q
    show (((a == d) && ((b == e) && ((c == f) && true))) && decide (r = s)) = decide ((a, b, c) :: r = (d, e, f) :: s)
    rw [Bool.eq_iff_iff]
    simp only [Bool.and_eq_true, beq_iff_eq, decide_eq_true_eq, List.cons.injEq, Prod.mk.injEq]
    constructor
    · rintro ⟨⟨h1, h2, h3, _⟩, h4⟩
      exact ⟨⟨h1, h2, h3⟩, h4⟩
    · rintro ⟨⟨h1, h2, h3⟩, h4⟩
      exact ⟨⟨h1, h2, h3, trivial⟩, h4⟩
theorem eqv_psT (ps qs : List PM.Part) : PyData.eqv (.tuple (ps.map dP)) (.tuple (qs.map dP)) = decide (ps = qs) := by rw [PyData.eqv, eqvAll_ps]
theorem eqv_psL0 (ps : List PM.Part) : PyData.eqv (.list (ps.map dP)) (.list []) = decide (ps = []) := by
  cases ps <;> rfl
/-- == of two tuples of parts -/
theorem w_eqP {x y : V} {Q : VK} (h1 : PsT K H x ps) (h2 : PsT K H y qs) (h : Q (.bl (decide (ps = qs))) H) : rEqD K x y H Q := w_eqD h1.dp h2.dp (shapedT _) (shapedT _) (by rw [eqv_psT]; exact h)
theorem w_neP {x y : V} {Q : VK} (h1 : PsT K H x ps) (h2 : PsT K H y qs) (h : Q (.bl (!decide (ps = qs))) H) : rNeD K x y H Q := w_neD h1.dp h2.dp (shapedT _) (shapedT _) (by rw [eqv_psT]; exact h)
/-- a list of parts != [] -/
theorem w_neP0 {l e : Addr} {Q : VK} (h1 : H l = some (.lst vs)) (hp : Ps K H vs ps) (h2 : H e = some (.lst [])) (h : Q (.bl (!decide (ps = []))) H) : rNeD K (.ref l) (.ref e) H Q :=
  w_neD (.lst (lof h1) (ps_dp hp)) (.lst (lof h2) .nil) (shapedL _) (by decide) (by rw [eqv_psL0]; exact h)
end
theorem sz {n : Nat} (h : n ≤ 100000) : n ≤ sizeLine := Nat.le_trans h (by decide)
theorem sz1 {n : Nat} (h : n ≤ 100000) : n < sizeLine := Nat.lt_of_le_of_lt h (by decide)
end Fz
namespace Fz
open PySem L2
def top (i : Nat) : Stmt := PySem.Challenge.pw_farfiles_k10_whole_puts_and_cuts_by_turn.main.body.getD i (.Pass ⟨0, 0, 0, 0⟩)
abbrev s_is_whole : Stmt := top 6
abbrev s_is_within : Stmt := top 7
abbrev s_is_part : Stmt := top 9
abbrev s_is_parts : Stmt := top 10
abbrev s_check_parts : Stmt := top 11
abbrev s_check_place : Stmt := top 12
abbrev s_size_of : Stmt := top 13
abbrev s_as_one : Stmt := top 14
abbrev s_ahead_of : Stmt := top 15
abbrev s_from_on : Stmt := top 16
abbrev s_spliced : Stmt := top 17
abbrev s_first_of : Stmt := top 18
abbrev s_length : Stmt := top 19
abbrev s_put : Stmt := top 20
abbrev s_cut : Stmt := top 21
abbrev s_cells : Stmt := top 22
abbrev s_law_purse : Stmt := top 24
abbrev s_law_take : Stmt := top 25
abbrev s_law_whole : Stmt := top 26
abbrev s_law_each : Stmt := top 27
abbrev s_law_runs : Stmt := top 28
abbrev s_law_is : Stmt := top 29
abbrev s_law_few : Stmt := top 30
abbrev s_law_extra : Stmt := top 31
abbrev s_law_right : Stmt := top 32
abbrev s_law_row_right : Stmt := top 33
abbrev s_law : Stmt := top 34
theorem sc_is_whole : FnScope ["thing"] ["thing"] (defScope s_is_whole) := ⟨rfl, rfl, rfl, by decide +kernel, rfl, by decide +kernel, by decide +kernel⟩
theorem sc_is_within : FnScope ["thing", "least", "most"] ["thing", "least", "most"] (defScope s_is_within) := ⟨rfl, rfl, rfl, by decide +kernel, rfl, by decide +kernel, by decide +kernel⟩
theorem sc_is_part : FnScope ["thing", "one", "piece", "first", "many"] ["thing"] (defScope s_is_part) := ⟨rfl, rfl, rfl, by decide +kernel, rfl, by decide +kernel, by decide +kernel⟩
theorem sc_is_parts : FnScope ["thing", "one"] ["thing"] (defScope s_is_parts) := ⟨rfl, rfl, rfl, by decide +kernel, rfl, by decide +kernel, by decide +kernel⟩
theorem sc_check_parts : FnScope ["thing"] ["thing"] (defScope s_check_parts) := ⟨rfl, rfl, rfl, by decide +kernel, rfl, by decide +kernel, by decide +kernel⟩
theorem sc_check_place : FnScope ["place", "size"] ["place", "size"] (defScope s_check_place) := ⟨rfl, rfl, rfl, by decide +kernel, rfl, by decide +kernel, by decide +kernel⟩
theorem sc_size_of : FnScope ["parts", "piece", "first", "many"] ["parts"] (defScope s_size_of) := ⟨rfl, rfl, rfl, by decide +kernel, rfl, by decide +kernel, by decide +kernel⟩
theorem sc_as_one : FnScope ["parts", "found", "piece", "first", "many", "before", "begin", "long"] ["parts"] (defScope s_as_one) := ⟨rfl, rfl, rfl, by decide +kernel, rfl, by decide +kernel, by decide +kernel⟩
theorem sc_ahead_of : FnScope ["parts", "place", "found", "left", "piece", "first", "many"] ["parts", "place"] (defScope s_ahead_of) := ⟨rfl, rfl, rfl, by decide +kernel, rfl, by decide +kernel, by decide +kernel⟩
theorem sc_from_on : FnScope ["parts", "place", "found", "left", "piece", "first", "many"] ["parts", "place"] (defScope s_from_on) := ⟨rfl, rfl, rfl, by decide +kernel, rfl, by decide +kernel, by decide +kernel⟩
theorem sc_spliced : FnScope ["parts", "more", "place"] ["parts", "more", "place"] (defScope s_spliced) := ⟨rfl, rfl, rfl, by decide +kernel, rfl, by decide +kernel, by decide +kernel⟩
theorem sc_first_of : FnScope ["parts", "many"] ["parts", "many"] (defScope s_first_of) := ⟨rfl, rfl, rfl, by decide +kernel, rfl, by decide +kernel, by decide +kernel⟩
theorem sc_length : FnScope ["parts"] ["parts"] (defScope s_length) := ⟨rfl, rfl, rfl, by decide +kernel, rfl, by decide +kernel, by decide +kernel⟩
theorem sc_put : FnScope ["parts", "more", "place", "size", "at"] ["parts", "more", "place"] (defScope s_put) := ⟨rfl, rfl, rfl, by decide +kernel, rfl, by decide +kernel, by decide +kernel⟩
theorem sc_cut : FnScope ["parts", "many"] ["parts", "many"] (defScope s_cut) := ⟨rfl, rfl, rfl, by decide +kernel, rfl, by decide +kernel, by decide +kernel⟩
theorem sc_cells : FnScope ["parts", "pieces", "found", "piece", "first", "many", "row"] ["parts", "pieces"] (defScope s_cells) := ⟨rfl, rfl, rfl, by decide +kernel, rfl, by decide +kernel, by decide +kernel⟩
theorem sc_law_purse : FnScope ["_law_script", "_law_k", "_law_cell"] ["_law_script", "_law_k"] (defScope s_law_purse) := ⟨rfl, rfl, rfl, by decide +kernel, rfl, by decide +kernel, by decide +kernel⟩
theorem sc_law_take : FnScope ["_law_purse_here", "_law_span", "_law_found"] ["_law_purse_here", "_law_span"] (defScope s_law_take) := ⟨rfl, rfl, rfl, by decide +kernel, rfl, by decide +kernel, by decide +kernel⟩
theorem sc_law_whole : FnScope ["_law_matter"] ["_law_matter"] (defScope s_law_whole) := ⟨rfl, rfl, rfl, by decide +kernel, rfl, by decide +kernel, by decide +kernel⟩
theorem sc_law_each : FnScope ["_law_lot", "_law_found", "_law_piece", "_law_first", "_law_size", "_law_k"] ["_law_lot"] (defScope s_law_each) := ⟨rfl, rfl, rfl, by decide +kernel, rfl, by decide +kernel, by decide +kernel⟩
theorem sc_law_runs : FnScope ["_law_row", "_law_found", "_law_piece", "_law_at"] ["_law_row"] (defScope s_law_runs) := ⟨rfl, rfl, rfl, by decide +kernel, rfl, by decide +kernel, by decide +kernel⟩
theorem sc_law_is : FnScope ["_law_found", "_law_due", "_law_part", "_law_one"] ["_law_found", "_law_due"] (defScope s_law_is) := ⟨rfl, rfl, rfl, by decide +kernel, rfl, by decide +kernel, by decide +kernel⟩
theorem sc_law_few : FnScope ["_law_purse_here"] ["_law_purse_here"] (defScope s_law_few) := ⟨rfl, rfl, rfl, by decide +kernel, rfl, by decide +kernel, by decide +kernel⟩
theorem sc_law_extra : FnScope ["_law_purse_here", "_law_row", "_law_store", "_law_at", "_law_piece", "_law_first", "_law_size", "_law_turn"] ["_law_purse_here", "_law_row", "_law_store"] (defScope s_law_extra) := ⟨rfl, rfl, rfl, by decide +kernel, rfl, by decide +kernel, by decide +kernel⟩
theorem sc_law_right : FnScope ["_law_lot", "_law_row", "_law_store", "_law_numbers", "_law_piece", "_law_at", "_law_turned"] ["_law_lot", "_law_row", "_law_store"] (defScope s_law_right) := ⟨rfl, rfl, rfl, by decide +kernel, rfl, by decide +kernel, by decide +kernel⟩
theorem sc_law_row_right : FnScope ["_law_purse_here", "_law_lot", "_law_row", "_law_store", "_law_met", "_law_turn", "_law_way", "_law_at", "_law_extra_here", "_law_new", "_law_one", "_law_cells_then"] ["_law_purse_here"] (defScope s_law_row_right) := ⟨rfl, rfl, rfl, by decide +kernel, rfl, by decide +kernel, by decide +kernel⟩
theorem sc_law : FnScope ["_law_script", "_law_k"] ["_law_script"] (defScope s_law) := ⟨rfl, rfl, rfl, by decide +kernel, rfl, by decide +kernel, by decide +kernel⟩
structure Md (K : PySem.W.Frag) (mg : Str → Option Value) : Prop where
  z_isinstance : mg "isinstance" = none
  z_int : mg "int" = none
  z_bool : mg "bool" = none
  z_tuple : mg "tuple" = none
  z_list : mg "list" = none
  z_dict : mg "dict" = none
  z_len : mg "len" = none
  z_all : mg "all" = none
  z_sum : mg "sum" = none
  z_min : mg "min" = none
  z_max : mg "max" = none
  z_range : mg "range" = none
  g_is_whole : mg "is_whole" = some (.ref (He.ga K "is_whole"))
  d_is_whole : ∃ fd, FunD K "is_whole" "is_whole" (defArgs s_is_whole) (defBody s_is_whole) (defScope s_is_whole) [] [] (He.ga K "is_whole") fd
  g_is_within : mg "is_within" = some (.ref (He.ga K "is_within"))
  d_is_within : ∃ fd, FunD K "is_within" "is_within" (defArgs s_is_within) (defBody s_is_within) (defScope s_is_within) [] [] (He.ga K "is_within") fd
  g_is_part : mg "is_part" = some (.ref (He.ga K "is_part"))
  d_is_part : ∃ fd, FunD K "is_part" "is_part" (defArgs s_is_part) (defBody s_is_part) (defScope s_is_part) [] [] (He.ga K "is_part") fd
  g_is_parts : mg "is_parts" = some (.ref (He.ga K "is_parts"))
  d_is_parts : ∃ fd, FunD K "is_parts" "is_parts" (defArgs s_is_parts) (defBody s_is_parts) (defScope s_is_parts) [] [] (He.ga K "is_parts") fd
  g_check_parts : mg "check_parts" = some (.ref (He.ga K "check_parts"))
  d_check_parts : ∃ fd, FunD K "check_parts" "check_parts" (defArgs s_check_parts) (defBody s_check_parts) (defScope s_check_parts) [] [] (He.ga K "check_parts") fd
  g_check_place : mg "check_place" = some (.ref (He.ga K "check_place"))
  d_check_place : ∃ fd, FunD K "check_place" "check_place" (defArgs s_check_place) (defBody s_check_place) (defScope s_check_place) [] [] (He.ga K "check_place") fd
  g_size_of : mg "size_of" = some (.ref (He.ga K "size_of"))
  d_size_of : ∃ fd, FunD K "size_of" "size_of" (defArgs s_size_of) (defBody s_size_of) (defScope s_size_of) [] [] (He.ga K "size_of") fd
  g_as_one : mg "as_one" = some (.ref (He.ga K "as_one"))
  d_as_one : ∃ fd, FunD K "as_one" "as_one" (defArgs s_as_one) (defBody s_as_one) (defScope s_as_one) [] [] (He.ga K "as_one") fd
  g_ahead_of : mg "ahead_of" = some (.ref (He.ga K "ahead_of"))
  d_ahead_of : ∃ fd, FunD K "ahead_of" "ahead_of" (defArgs s_ahead_of) (defBody s_ahead_of) (defScope s_ahead_of) [] [] (He.ga K "ahead_of") fd
  g_from_on : mg "from_on" = some (.ref (He.ga K "from_on"))
  d_from_on : ∃ fd, FunD K "from_on" "from_on" (defArgs s_from_on) (defBody s_from_on) (defScope s_from_on) [] [] (He.ga K "from_on") fd
  g_spliced : mg "spliced" = some (.ref (He.ga K "spliced"))
  d_spliced : ∃ fd, FunD K "spliced" "spliced" (defArgs s_spliced) (defBody s_spliced) (defScope s_spliced) [] [] (He.ga K "spliced") fd
  g_first_of : mg "first_of" = some (.ref (He.ga K "first_of"))
  d_first_of : ∃ fd, FunD K "first_of" "first_of" (defArgs s_first_of) (defBody s_first_of) (defScope s_first_of) [] [] (He.ga K "first_of") fd
  g_length : mg "length" = some (.ref (He.ga K "length"))
  d_length : ∃ fd, FunD K "length" "length" (defArgs s_length) (defBody s_length) (defScope s_length) [] [] (He.ga K "length") fd
  g_put : mg "put" = some (.ref (He.ga K "put"))
  d_put : ∃ fd, FunD K "put" "put" (defArgs s_put) (defBody s_put) (defScope s_put) [] [("place", V.non)] (He.ga K "put") fd
  g_cut : mg "cut" = some (.ref (He.ga K "cut"))
  d_cut : ∃ fd, FunD K "cut" "cut" (defArgs s_cut) (defBody s_cut) (defScope s_cut) [] [] (He.ga K "cut") fd
  g_cells : mg "cells" = some (.ref (He.ga K "cells"))
  d_cells : ∃ fd, FunD K "cells" "cells" (defArgs s_cells) (defBody s_cells) (defScope s_cells) [] [] (He.ga K "cells") fd
  g_law_purse : mg "_law_purse" = some (.ref (He.ga K "_law_purse"))
  d_law_purse : ∃ fd, FunD K "_law_purse" "_law_purse" (defArgs s_law_purse) (defBody s_law_purse) (defScope s_law_purse) [] [] (He.ga K "_law_purse") fd
  g_law_take : mg "_law_take" = some (.ref (He.ga K "_law_take"))
  d_law_take : ∃ fd, FunD K "_law_take" "_law_take" (defArgs s_law_take) (defBody s_law_take) (defScope s_law_take) [] [] (He.ga K "_law_take") fd
  g_law_whole : mg "_law_whole" = some (.ref (He.ga K "_law_whole"))
  d_law_whole : ∃ fd, FunD K "_law_whole" "_law_whole" (defArgs s_law_whole) (defBody s_law_whole) (defScope s_law_whole) [] [] (He.ga K "_law_whole") fd
  g_law_each : mg "_law_each" = some (.ref (He.ga K "_law_each"))
  d_law_each : ∃ fd, FunD K "_law_each" "_law_each" (defArgs s_law_each) (defBody s_law_each) (defScope s_law_each) [] [] (He.ga K "_law_each") fd
  g_law_runs : mg "_law_runs" = some (.ref (He.ga K "_law_runs"))
  d_law_runs : ∃ fd, FunD K "_law_runs" "_law_runs" (defArgs s_law_runs) (defBody s_law_runs) (defScope s_law_runs) [] [] (He.ga K "_law_runs") fd
  g_law_is : mg "_law_is" = some (.ref (He.ga K "_law_is"))
  d_law_is : ∃ fd, FunD K "_law_is" "_law_is" (defArgs s_law_is) (defBody s_law_is) (defScope s_law_is) [] [] (He.ga K "_law_is") fd
  g_law_few : mg "_law_few" = some (.ref (He.ga K "_law_few"))
  d_law_few : ∃ fd, FunD K "_law_few" "_law_few" (defArgs s_law_few) (defBody s_law_few) (defScope s_law_few) [] [] (He.ga K "_law_few") fd
  g_law_extra : mg "_law_extra" = some (.ref (He.ga K "_law_extra"))
  d_law_extra : ∃ fd, FunD K "_law_extra" "_law_extra" (defArgs s_law_extra) (defBody s_law_extra) (defScope s_law_extra) [] [] (He.ga K "_law_extra") fd
  g_law_right : mg "_law_right" = some (.ref (He.ga K "_law_right"))
  d_law_right : ∃ fd, FunD K "_law_right" "_law_right" (defArgs s_law_right) (defBody s_law_right) (defScope s_law_right) [] [] (He.ga K "_law_right") fd
  g_law_row_right : mg "_law_row_right" = some (.ref (He.ga K "_law_row_right"))
  d_law_row_right : ∃ fd, FunD K "_law_row_right" "_law_row_right" (defArgs s_law_row_right) (defBody s_law_row_right) (defScope s_law_row_right) [] [] (He.ga K "_law_row_right") fd
  g_law : mg "law" = some (.ref (He.ga K "law"))
  d_law : ∃ fd, FunD K "law" "law" (defArgs s_law) (defBody s_law) (defScope s_law) [] [] (He.ga K "law") fd
end Fz
/-! ### the walk's own turns (local rules at keys of our own) -/
open PySem L2 Fz
/-! a fact of the heap as it stands, back along the heaps -/
local macro_rules | `(tactic| walk_at "hf") => `(tactic| repeat (first
  | assumption
  | with_reducible exact lof (by assumption)
  | with_reducible exact tof (by assumption)
  | with_reducible refine same_tup (by assumption) ?_
  | with_reducible refine Same.seq (by assumption) ?_
  | with_reducible refine Tu.tup (But.tu (by assumption) (by assumption)) ?_
  | with_reducible refine Tu.tup (Go.tu (by assumption)) ?_
  | with_reducible refine Tu.tup (by assumption) ?_
  | with_reducible refine ‹Same _ _› _ _ ?_))
local macro_rules | `(tactic| walk_at "go1") => `(tactic| first
  | with_reducible refine w_var (by with_unfolding_all rfl) ?_
  | with_reducible refine w_c ?_
  | with_reducible refine w_seq ?_
  | with_reducible refine w_asg ?_
  | with_reducible refine w_name ?_
  | with_reducible refine w_op ?_
  | with_reducible refine w_cons ?_
  | with_reducible refine w_nil ?_
  | with_reducible refine w_cb ?_
  | with_reducible refine w_call ?_
  | with_reducible refine w_ret ?_
  | with_reducible refine w_callN ?_
  | with_reducible refine w_lens (by with_unfolding_all rfl) (by with_unfolding_all rfl) ?_
  | with_reducible refine w_ifs ?_
  | with_reducible refine w_test ?_
  | with_reducible refine w_tb ?_
  | with_reducible refine w_bl ?_
  | with_reducible refine w_I0 ?_
  | with_reducible refine w_eqI ?_
  | with_reducible refine w_neI ?_
  | with_reducible refine w_eqS ?_
  | with_reducible refine w_neS ?_
  | with_reducible refine w_eqB ?_
  | with_reducible refine w_drop ?_
  | with_reducible refine w_and ?_
  | with_reducible refine w_or ?_
  | with_reducible refine w_not ?_
  | with_reducible refine w_andV ?_
  | with_reducible refine w_orV ?_
  | with_reducible refine w_notV ?_
  | with_reducible refine w_un ?_
  | with_reducible refine w_U ?_
  | with_reducible refine w_ifE ?_
  | with_reducible refine w_chain ?_
  | with_reducible refine w_tup ?_
  | with_reducible refine w_lst ?_
  | with_reducible refine w_parS ?_
  | with_reducible refine w_par ?_
  | with_reducible refine w_par3S ?_
  | with_reducible refine w_par3 ?_
  | with_reducible refine w_aug (by with_unfolding_all rfl) ?_
  | with_reducible refine w_ipI ?_
  | with_reducible refine w_gnil ?_
  | with_reducible refine w_gcons ?_
  | with_reducible refine w_gsub ?_
  | with_reducible refine w_sl ?_
  | with_reducible refine w_part ?_
  | with_reducible refine w_int ?_
  | with_reducible refine w_nopart ?_
  | with_reducible refine w_bm ?_
  | with_reducible refine w_max ?_
  | with_reducible refine w_isN ?_
  | with_reducible refine w_sz (by with_unfolding_all rfl) ?_
  | with_reducible refine w_next ?_
  | with_reducible refine w_rng1 ?_
  | with_reducible refine w_dnew ?_
  | with_reducible refine w_dgetU ?_
  | with_reducible refine w_dget2 ?_
  | with_reducible refine w_isD (by assumption) ?_
  | with_reducible refine w_dput ?_
  | with_reducible refine w_lenD (by assumption) ?_
  | with_reducible refine w_listD (by assumption) ?_
  | with_reducible refine w_revU ?_
  | with_reducible refine w_slT (by assumption) ?_
  | with_reducible refine w_slT (tof (by assumption)) ?_
  | with_reducible refine w_rng2 ?_
  | with_reducible refine w_ilist ?_
  | with_reducible refine w_itup ?_
  | with_reducible refine w_isi (.base (.int _)) kit_int_int ?_
  | with_reducible refine w_isi (.base (.int _)) kit_int_bool ?_
  | with_reducible refine w_isi (.base (.int _)) kit_int_str ?_
  | with_reducible refine w_isi (.base (.int _)) kit_int_tuple ?_
  | with_reducible refine w_isi (.base (.bl _)) kit_bool_int ?_
  | with_reducible refine w_isi (.base (.bl _)) kit_bool_bool ?_
  | with_reducible refine w_isi (.base (.bl _)) kit_bool_str ?_
  | with_reducible refine w_isi (.base (.bl _)) kit_bool_tuple ?_
  | with_reducible refine w_isi (.base (.str _)) kit_str_int ?_
  | with_reducible refine w_isi (.base (.str _)) kit_str_bool ?_
  | with_reducible refine w_isi (.base (.str _)) kit_str_str ?_
  | with_reducible refine w_isi (.base (.str _)) kit_str_tuple ?_
  | with_reducible refine w_isi (.base .non) kit_NoneType_int ?_
  | with_reducible refine w_isi (.base .non) kit_NoneType_bool ?_
  | with_reducible refine w_isi (.base .non) kit_NoneType_str ?_
  | with_reducible refine w_isi (.base .non) kit_NoneType_tuple ?_
  | with_reducible refine w_isi (ty_tup (by assumption)) kit_tuple_tuple ?_
  | with_reducible refine w_isi (ty_tup (tof (by assumption))) kit_tuple_tuple ?_
  | with_reducible refine w_gtup (by assumption) (by with_unfolding_all rfl) ?_
  | with_reducible refine w_gtup (tof (by assumption)) (by with_unfolding_all rfl) ?_
  | with_reducible refine w_lenL (by assumption) ?_
  | with_reducible refine w_lenL (lof (by assumption)) ?_
  | with_reducible refine w_lenT (by assumption) ?_
  | with_reducible refine w_lenT (tof (by assumption)) ?_
  | with_reducible refine w_ixL (by assumption) (by with_unfolding_all rfl) ?_
  | with_reducible refine w_ixL (lof (by assumption)) (by with_unfolding_all rfl) ?_
  | with_reducible refine w_ixT (by assumption) (by with_unfolding_all rfl) ?_
  | with_reducible refine w_ixT (tof (by assumption)) (by with_unfolding_all rfl) ?_
  | with_reducible refine w_tyL (by assumption) ?_
  | with_reducible refine w_tyL (lof (by assumption)) ?_
  | with_reducible refine w_setL (by assumption) (by with_unfolding_all rfl) ?_
  | with_reducible refine w_slL (by assumption) ?_
  | with_reducible refine w_slL (lof (by assumption)) ?_
  | with_reducible refine w_tuple (lof (by assumption)) ?_
  | with_reducible refine w_listT (by assumption) ?_
  | with_reducible refine w_listT (tof (by assumption)) ?_
  | with_reducible refine w_min ?_
  | with_reducible refine w_notN ?_
  | with_reducible refine w_isB ?_
  | with_reducible refine w_isnB ?_
  | with_reducible refine w_cont ?_
  | with_reducible refine iteT ?_
  | with_reducible refine iteF ?_
  | with_reducible refine w_nT ?_
  | with_reducible refine w_nF ?_
  | with_reducible refine w_enx ?_
  | with_reducible refine w_ert ?_
  | with_reducible refine w_ect ?_
  | with_reducible refine w_ebk ?_)
local macro_rules | `(tactic| walk_at "go") => `(tactic| repeat (walk_at "go1"))
/-! ### the parts module: each def keeps its promise -/
namespace Fz
open PySem L2
section
variable {P : Program} {w : World} {K : PySem.W.Frag} {mg : Str → Option Value} {base : Heap}
def spWhole : Sp := fun vs H Q _ => ∃ n : Int, vs = [.int n] ∧ ∀ H', Same H H' → Q (.bl true) H'
theorem ok_is_whole (M : Md K mg) : Df P w K mg base CX0 1 "is_whole" ["thing"] spWhole := by
  obtain ⟨fd, F⟩ := M.d_is_whole
  refine ⟨⟨fd, F.ok sc_is_whole (fun vs H Q E h => ?_) (fun cdv A outer s H vs Q E hr h => ?_), F.bindsN fun _ _ _ _ _ _ us hl => match us, hl with | [_], _ => rfl⟩, M.g_is_whole, F.kp⟩
  · obtain ⟨n, rfl, _⟩ := h
    rfl
  · obtain ⟨n, rfl, k⟩ := h
    refine ⟨_, PSs.nox (pss_one (ps_ret (pe_and (pe_callB (k_isi (K := K) rfl) (by rfl) M.z_isinstance bt_isinstance (pa_cons (pv 0) (pa_cons (pe_bltn (v := .ty "int") (by rfl) M.z_int bt_int rfl) pa_nil))) (pe_one (pe_not (pe_callB (k_isi (K := K) rfl) (by rfl) M.z_isinstance bt_isinstance (pa_cons (pv 0) (pa_cons (pe_bltn (v := .ty "bool") (by rfl) M.z_bool bt_bool rfl) pa_nil)))))))), ?_⟩
    try dsimp only [cxOf, Cx.nox]
    walk_at "go"
    exact k _ (Same.refl _)
def spWithin : Sp := fun vs H Q _ => ∃ n a b : Int, vs = [.int n, .int a, .int b] ∧ ∀ H', Same H H' → Q (.bl (decide (a ≤ n ∧ n ≤ b))) H'
theorem ok_is_within (M : Md K mg) : Df P w K mg base CX0 2 "is_within" ["thing", "least", "most"] spWithin := by
  have D_is_whole := ok_is_whole (P := P) (w := w) (base := base) M
  obtain ⟨fd, F⟩ := M.d_is_within
  refine ⟨⟨fd, F.ok sc_is_within (fun vs H Q E h => ?_) (fun cdv A outer s H vs Q E hr h => ?_), F.bindsN fun _ _ _ _ _ _ us hl => match us, hl with | [_, _, _], _ => rfl⟩, M.g_is_within, F.kp⟩
  · obtain ⟨n, a, b, rfl, _⟩ := h
    rfl
  · obtain ⟨n, a, b, rfl, k⟩ := h
    refine ⟨_, PSs.nox (pss_one (ps_ret (pe_and (pe_cl D_is_whole (hr.mono (by decide)) (by rfl) pass0 (pa_cons (pv 0) pa_nil)) (pe_one (pe_chain op_le op_le (pv 1) (pv 0) (pv 2)))))), ?_⟩
    try dsimp only [cxOf, Cx.nox]
    walk_at "go"
    refine ⟨n, rfl, fun H1 s1 => ?_⟩
    walk_at "go"
    refine ite2 (fun h => ?_) (fun h => ?_)
    · walk_at "go"
      have h : a ≤ n := of_decide_eq_true h
      have e : decide (n ≤ b) = decide (a ≤ n ∧ n ≤ b) := by simp [h]
      rw [e]
      exact k _ s1
    · have h : ¬ a ≤ n := fun z => h (decide_eq_true z)
      have e : false = decide (a ≤ n ∧ n ≤ b) := by simp [h]
      rw [e]
      exact k _ s1
def spIsPart (K : PySem.W.Frag) : Sp := fun vs H Q _ => ∃ v p, vs = [v] ∧ IsP K H v p ∧ ∀ H', Same H H' → Q (.bl (decide (0 < p.1 ∧ 0 ≤ p.2.1 ∧ 0 < p.2.2))) H'
theorem mon_const (f : Nat → V) : Mon (fun i v _ => v = f i) := fun _ _ _ _ h _ => h
theorem all_true {n : Nat} : ((List.range n).map (fun _ => true)).all id = true := by simp
theorem ok_is_part (M : Md K mg) : Df P w K mg base CX0 2 "is_part" ["thing"] (spIsPart K) := by
  have D_is_whole := ok_is_whole (P := P) (w := w) (base := base) M
  obtain ⟨fd, F⟩ := M.d_is_part
  refine ⟨⟨fd, F.ok sc_is_part (fun vs H Q E h => ?_) (fun cdv A outer s H vs Q E hr h => ?_), F.bindsN fun _ _ _ _ _ _ us hl => match us, hl with | [_], _ => rfl⟩, M.g_is_part, F.kp⟩
  · obtain ⟨n, a, rfl, _⟩ := h
    rfl
  · obtain ⟨v, p, rfl, ⟨a, rfl, hS⟩, k⟩ := h
    refine ⟨_, PSs.nox (pss_cons (ps_if (PW.pt (pw_or (pt_not (pt_val (pe_callB (k_isi (K := K) rfl) (by rfl) M.z_isinstance bt_isinstance (pa_cons (pv 0) (pa_cons (pe_bltn (v := .ty "tuple") (by rfl) M.z_tuple bt_tuple rfl) pa_nil))))) (pw_or (pt_cmpR op_ne (pe_callB (k_len (K := K) rfl) (by rfl) M.z_len bt_len (pa_cons (pv 0) pa_nil)) pe_int (nomark _)) (pw_or1 (pt_not (pt_val (pe_callB (k_all (K := K) rfl rfl) (by rfl) M.z_all bt_all (pa_cons (pe_lc (own := [("one", 1)]) (g := (gName 1)) rfl sc_is_part.nd (k_itup (K := K) rfl (pv 0)) (blkOk_by (own := [("one", 1)]) (N := ["thing", "one", "piece", "first", "many"]) (sc := defScope s_is_part) (by decide +kernel)) (fun _ _ _ _ _ => (pg_name (i := 1) sc_is_part.nd rfl (Or.inl rfl))) (fun _ _ _ _ _ => pts_nil) (fun _ _ _ _ _ => (pe_cl D_is_whole (hr.mono (by decide)) (by rfl) pass0 (pa_cons (pv 1) pa_nil)))) pa_nil))))))))
 (pss_one (ps_ret pe_bl))
 pss_nil)
 (pss_cons (ps_asg (pv 0) (k_gtup (K := K) (n := 3) rfl rfl (pgs_cons (pg_name (i := 2) sc_is_part.nd rfl (Or.inl rfl)) (pgs_cons (pg_name (i := 3) sc_is_part.nd rfl (Or.inl rfl)) (pgs_cons (pg_name (i := 4) sc_is_part.nd rfl (Or.inl rfl)) pgs_nil)))))
 (pss_one (ps_ret (pe_and (pe_cmpR op_gt (pv 2) pe_int (nomark _)) (pe_and (pe_cmpR op_ge (pv 3) pe_int (nomark _)) (pe_one (pe_cmpR op_gt (pv 4) pe_int (nomark _))))))))), ?_⟩
    try dsimp only [cxOf, Cx.nox]
    walk_at "go"
    refine iteNS (by rfl) ?_
    walk_at "go"
    refine w_lcT (K := K) (a := a) (fun i v _ => v = .bl ((fun _ => true) i)) (mon_const _) hS (by simp) (fun i x H1 hi s1 Q' q => ?_) (fun D H1 acc n s1 hD hT => ?_) _ (fun R r => ⟨_, rfl, r⟩)
    · have : ∃ n, x = .int n := by
        match i, hi with
        | 0, hi => simp at hi; exact ⟨_, hi.symm⟩
        | 1, hi => simp at hi; exact ⟨_, hi.symm⟩
        | 2, hi => simp at hi; exact ⟨_, hi.symm⟩
        | n + 3, hi => simp at hi
      obtain ⟨n, rfl⟩ := this
      refine ⟨rfl, ?_⟩
      walk_at "go"
      exact ⟨n, rfl, fun H2 s2 => q _ _ s2 rfl⟩
    · have e := LcT.map V.bl (fun _ => true) hT
      subst e
      walk_at "go"
      refine w_all (lof hD) ?_
      rw [all_true]
      have hS1 := same_tup s1 hS
      walk_at "go"
      refine ite2 (fun h1 => ?_) (fun h1 => ?_)
      · walk_at "go"
        refine ite2 (fun h2 => ?_) (fun h2 => ?_)
        · walk_at "go"
          have h1 : 0 < p.1 := of_decide_eq_true h1
          have h2 : 0 ≤ p.2.1 := of_decide_eq_true h2
          have e : decide (0 < p.2.2) = decide (0 < p.1 ∧ 0 ≤ p.2.1 ∧ 0 < p.2.2) := by simp [h1, h2]
          rw [e]
          exact k _ s1
        · have h2 : ¬ 0 ≤ p.2.1 := fun z => h2 (decide_eq_true z)
          have e : false = decide (0 < p.1 ∧ 0 ≤ p.2.1 ∧ 0 < p.2.2) := by simp [h2]
          rw [e]
          exact k _ s1
      · have h1 : ¬ 0 < p.1 := fun z => h1 (decide_eq_true z)
        have e : false = decide (0 < p.1 ∧ 0 ≤ p.2.1 ∧ 0 < p.2.2) := by simp [h1]
        rw [e]
        exact k _ s1
def spIsParts (K : PySem.W.Frag) : Sp := fun vs H Q _ => ∃ v ps, vs = [v] ∧ PsT K H v ps ∧ PM.Good ps ∧ ps.length ≤ 100000 ∧ ∀ H', Same H H' → Q (.bl true) H'
theorem ok_is_parts (M : Md K mg) : Df P w K mg base CX0 3 "is_parts" ["thing"] (spIsParts K) := by
  have D_is_part := ok_is_part (P := P) (w := w) (base := base) M
  obtain ⟨fd, F⟩ := M.d_is_parts
  refine ⟨⟨fd, F.ok sc_is_parts (fun vs H Q E h => ?_) (fun cdv A outer s H vs Q E hr h => ?_), F.bindsN fun _ _ _ _ _ _ us hl => match us, hl with | [_], _ => rfl⟩, M.g_is_parts, F.kp⟩
  · obtain ⟨n, a, rfl, _⟩ := h
    rfl
  · obtain ⟨v, ps, rfl, ⟨a, vs, rfl, hS, hP⟩, hG, hl, k⟩ := h
    have hlen := paired_len hP
    refine ⟨_, PSs.nox (pss_one (ps_ret (pe_and (pe_callB (k_isi (K := K) rfl) (by rfl) M.z_isinstance bt_isinstance (pa_cons (pv 0) (pa_cons (pe_bltn (v := .ty "tuple") (by rfl) M.z_tuple bt_tuple rfl) pa_nil))) (pe_one (pe_callB (k_all (K := K) rfl rfl) (by rfl) M.z_all bt_all (pa_cons (pe_lc (own := [("one", 1)]) (g := (gName 1)) rfl sc_is_parts.nd (k_itup (K := K) rfl (pv 0)) (blkOk_by (own := [("one", 1)]) (N := ["thing", "one"]) (sc := defScope s_is_parts) (by decide +kernel)) (fun _ _ _ _ _ => (pg_name (i := 1) sc_is_parts.nd rfl (Or.inl rfl))) (fun _ _ _ _ _ => pts_nil) (fun _ _ _ _ _ => (pe_cl D_is_part (hr.mono (by decide)) (by rfl) pass0 (pa_cons (pv 1) pa_nil)))) pa_nil)))))), ?_⟩
    try dsimp only [cxOf, Cx.nox]
    walk_at "go"
    refine w_lcT (K := K) (a := a) (fun i v _ => v = .bl ((fun _ => true) i)) (mon_const _) hS (by omega) (fun i x H1 hi s1 Q' q => ?_) (fun D H1 acc n s1 hD hT => ?_) _ (fun R r => ⟨_, rfl, r⟩)
    · obtain ⟨p, hp, hx⟩ := paired_get hP hi
      have hg := hG p (List.mem_of_getElem? hp)
      refine ⟨rfl, ?_⟩
      walk_at "go"
      refine ⟨x, p, rfl, hx.tu (.of s1), fun H2 s2 => ?_⟩
      rw [decide_eq_true hg]
      exact q _ _ s2 rfl
    · have e := LcT.map V.bl (fun _ => true) hT
      subst e
      walk_at "go"
      refine w_all (lof hD) ?_
      rw [all_true]
      exact k _ s1
def spCheckParts (K : PySem.W.Frag) : Sp := fun vs H Q _ => ∃ v ps, vs = [v] ∧ PsT K H v ps ∧ PM.Good ps ∧ ps.length ≤ 100000 ∧ ∀ H', Same H H' → Q .non H'
theorem ok_check_parts (M : Md K mg) : Df P w K mg base CX0 4 "check_parts" ["thing"] (spCheckParts K) := by
  have D_is_parts := ok_is_parts (P := P) (w := w) (base := base) M
  obtain ⟨fd, F⟩ := M.d_check_parts
  refine ⟨⟨fd, F.ok sc_check_parts (fun vs H Q E h => ?_) (fun cdv A outer s H vs Q E hr h => ?_), F.bindsN fun _ _ _ _ _ _ us hl => match us, hl with | [_], _ => rfl⟩, M.g_check_parts, F.kp⟩
  · obtain ⟨n, a, rfl, _⟩ := h
    rfl
  · obtain ⟨v, ps, rfl, hT, hG, hl, k⟩ := h
    refine ⟨_, PSs.nox (pss_one (ps_if (pt_not (pt_val (pe_cl D_is_parts (hr.mono (by decide)) (by rfl) pass0 (pa_cons (pv 0) pa_nil))))
 (pss_one ps_never)
 pss_nil)), ?_⟩
    try dsimp only [cxOf, Cx.nox]
    walk_at "go"
    refine ⟨v, ps, rfl, hT, hG, hl, fun H1 s1 => ?_⟩
    walk_at "go"
    exact k _ s1
def spCheckPlace : Sp := fun vs H Q _ => ∃ n m : Int, vs = [.int n, .int m] ∧ 0 ≤ n ∧ n ≤ m ∧ ∀ H', Same H H' → Q .non H'
theorem ok_check_place (M : Md K mg) : Df P w K mg base CX0 3 "check_place" ["place", "size"] spCheckPlace := by
  have D_is_within := ok_is_within (P := P) (w := w) (base := base) M
  obtain ⟨fd, F⟩ := M.d_check_place
  refine ⟨⟨fd, F.ok sc_check_place (fun vs H Q E h => ?_) (fun cdv A outer s H vs Q E hr h => ?_), F.bindsN fun _ _ _ _ _ _ us hl => match us, hl with | [_, _], _ => rfl⟩, M.g_check_place, F.kp⟩
  · obtain ⟨n, a, rfl, _⟩ := h
    rfl
  · obtain ⟨n, m, rfl, h0, h1, k⟩ := h
    refine ⟨_, PSs.nox (pss_one (ps_if (pt_not (pt_val (pe_cl D_is_within (hr.mono (by decide)) (by rfl) pass0 (pa_cons (pv 0) (pa_cons pe_int (pa_cons (pv 1) pa_nil))))))
 (pss_one ps_never)
 pss_nil)), ?_⟩
    try dsimp only [cxOf, Cx.nox]
    walk_at "go"
    refine ⟨n, 0, m, rfl, fun H1 s1 => ?_⟩
    rw [decide_eq_true (And.intro h0 h1)]
    walk_at "go"
    exact k _ s1
def spSizeOf (K : PySem.W.Frag) : Sp := fun vs H Q _ => ∃ v ps, vs = [v] ∧ PsT K H v ps ∧ ps.length ≤ 100000 ∧ ∀ H', Same H H' → Q (.int (PM.sizeOf ps)) H'
theorem mon_fix {α : Type} (l : List α) (mk : α → V) : Mon (fun i v _ => ∃ x, l[i]? = some x ∧ v = mk x) := fun _ _ _ _ h _ => h
theorem ok_size_of (M : Md K mg) : Df P w K mg base CX0 1 "size_of" ["parts"] (spSizeOf K) := by
  obtain ⟨fd, F⟩ := M.d_size_of
  refine ⟨⟨fd, F.ok sc_size_of (fun vs H Q E h => ?_) (fun cdv A outer s H vs Q E hr h => ?_), F.bindsN fun _ _ _ _ _ _ us hl => match us, hl with | [_], _ => rfl⟩, M.g_size_of, F.kp⟩
  · obtain ⟨n, a, rfl, _⟩ := h
    rfl
  · obtain ⟨v, ps, rfl, ⟨a, vs, rfl, hS, hP⟩, hl, k⟩ := h
    have hlen := paired_len hP
    refine ⟨_, PSs.nox (pss_one (ps_ret (pe_callB (k_sum (K := K) rfl rfl) (by rfl) M.z_sum bt_sum (pa_cons (pe_lc (own := [("piece", 1), ("first", 2), ("many", 3)]) (g := (gTup K 3 (gCons (gName 1) (gCons (gName 2) (gCons (gName 3) gNil))))) rfl sc_size_of.nd (k_itup (K := K) rfl (pv 0)) (blkOk_by (own := [("piece", 1), ("first", 2), ("many", 3)]) (N := ["parts", "piece", "first", "many"]) (sc := defScope s_size_of) (by decide +kernel)) (fun _ _ _ _ _ => (k_gtup (K := K) (n := 3) rfl rfl (pgs_cons (pg_name (i := 1) sc_size_of.nd rfl (Or.inl rfl)) (pgs_cons (pg_name (i := 2) sc_size_of.nd rfl (Or.inl rfl)) (pgs_cons (pg_name (i := 3) sc_size_of.nd rfl (Or.inl rfl)) pgs_nil))))) (fun _ _ _ _ _ => pts_nil) (fun _ _ _ _ _ => (pv 3))) pa_nil)))), ?_⟩
    try dsimp only [cxOf, Cx.nox]
    walk_at "go"
    refine w_lcT (K := K) (a := a) (fun i v _ => ∃ x, (ps.map (·.2.2))[i]? = some x ∧ v = .int x) (mon_fix _ V.int) hS (by omega) (fun i x H1 hi s1 Q' q => ?_) (fun D H1 acc n s1 hD hT => ?_) _ (fun R r => ⟨_, rfl, r⟩)
    · obtain ⟨p, hp, hx⟩ := paired_get hP hi
      obtain ⟨b, rfl, hb⟩ := hx.tu (.of s1)
      walk_at "go"
      refine ⟨rfl, ?_⟩
      walk_at "go"
      exact q _ _ (Same.refl _) ⟨p.2.2, by rw [List.getElem?_map, hp]; rfl, rfl⟩
    · have e : acc = (ps.map (·.2.2)).map V.int := LcT.mapL (by rw [List.length_map, ← hlen]; exact hT)
      subst e
      walk_at "go"
      exact w_sum (lof hD) (k _ s1)
theorem ixN_snoc {us : List V} {u : V} : ixN (us ++ [u]).length (-1) = some us.length := by
  unfold ixN
  simp
  omega
theorem atI_snoc {us : List V} {u : V} : atI (us ++ [u]) (-1) = some u := by
  unfold atI
  rw [ixN_snoc]
  simp
theorem set_snoc {us : List V} {u t : V} : (us ++ [u]).set us.length t = us ++ [t] := by simp
/-- a list of parts at a -/
def PsL (K : PySem.W.Frag) (H : Hp) (a : Addr) (ps : List PM.Part) : Prop := ∃ vs, SqL K H a vs ∧ Ps K H vs ps
def spAsOne (K : PySem.W.Frag) : Sp := fun vs H Q _ => ∃ a ps, vs = [.ref a] ∧ PsL K H a ps ∧ ps.length ≤ 50000 ∧ ∀ v H', Same H H' → PsT K H' v (PM.asOne ps) → Q v H'
theorem take_snoc {α : Type} {l : List α} {i : Nat} {x : α} (h : l[i]? = some x) : l.take (i + 1) = l.take i ++ [x] := by rw [List.take_add_one, h]; rfl
theorem glue_len (acc : List PM.Part) (p : PM.Part) : (PM.glue acc p).length ≤ acc.length + 1 := by
  unfold PM.glue
  split
  · split <;> simp <;> omega
  · simp
theorem foldl_glue_len : ∀ (ps acc : List PM.Part), (ps.foldl PM.glue acc).length ≤ acc.length + ps.length
  | [], acc => by simp
  | p :: r, acc => by
    have h1 := foldl_glue_len r (PM.glue acc p)
    have h2 := glue_len acc p
    simp only [List.foldl_cons, List.length_cons]
    omega
theorem ok_as_one (M : Md K mg) : Df P w K mg base CX0 1 "as_one" ["parts"] (spAsOne K) := by
  obtain ⟨fd, F⟩ := M.d_as_one
  refine ⟨⟨fd, F.ok sc_as_one (fun vs H Q E h => ?_) (fun cdv A outer s H vs Q E hr h => ?_), F.bindsN fun _ _ _ _ _ _ us hl => match us, hl with | [_], _ => rfl⟩, M.g_as_one, F.kp⟩
  · obtain ⟨n, a, rfl, _⟩ := h
    rfl
  · obtain ⟨a, ps, rfl, ⟨vs, hS, hP⟩, hl, k⟩ := h
    have hlen := paired_len hP
    refine ⟨_, PSs.nox (pss_cons (ps_set (i := 1) sc_as_one.nd rfl (Or.inl rfl) (pe_lstN pa_nil))
 (pss_cons (ps_for PassesOwn.never rfl (k_ilist (K := K) rfl (pv 0)) (k_gtup (K := K) (n := 3) rfl rfl (pgs_cons (pg_name (i := 2) sc_as_one.nd rfl (Or.inl rfl)) (pgs_cons (pg_name (i := 3) sc_as_one.nd rfl (Or.inl rfl)) (pgs_cons (pg_name (i := 4) sc_as_one.nd rfl (Or.inl rfl)) pgs_nil))))
 (Evl.pss_cut (ps_if (pt_cmpR (k_neD (K := K) rfl hr.units) (pv 1) (pe_lstN pa_nil) (nomark _))
 (pss_cons (ps_asg (pe_ix (k_ixL (K := K) rfl) (pv 1) (pe_un un_neg pe_int) (fun _ _ => rfl)) (k_gtup (K := K) (n := 3) rfl rfl (pgs_cons (pg_name (i := 5) sc_as_one.nd rfl (Or.inl rfl)) (pgs_cons (pg_name (i := 6) sc_as_one.nd rfl (Or.inl rfl)) (pgs_cons (pg_name (i := 7) sc_as_one.nd rfl (Or.inl rfl)) pgs_nil)))))
 (pss_one (ps_if (PW.pt (pw_and (pt_cmpR op_eq (pv 5) (pv 2) (nomark _)) (pw_and1 (pt_cmpR op_eq (pe_op op_add (pv 6) (pv 7)) (pv 3) (nomark _)))))
 (pss_cons (ps_asg (pe_tupN (pa_cons (pv 2) (pa_cons (pv 6) (pa_cons (pe_op op_add (pv 7) (pv 4)) pa_nil)))) (pg_sub (pv 1) (pe_un un_neg pe_int) set_listN))
 (pss_one ps_continue))
 pss_nil)))
 pss_nil)
 (pss_one (ps_expr (k_bm (K := K) rfl PySem.F.plainAttrs_list PySem.F.slot_list_append PySem.F.type_list_append mt_appN (pv 1) (pa_cons (pe_tupN (pa_cons (pv 2) (pa_cons (pv 3) (pa_cons (pv 4) pa_nil)))) pa_nil))))))
 (pss_one (ps_ret (pe_callTy (k_tuple (K := K) rfl) (by rfl) M.z_tuple bt_tuple (pa_cons (pv 1) pa_nil)))))), ?_⟩
    try dsimp only [cxOf, Cx.nox]
    walk_at "go"
    intro f H0 n0 s0 h0
    walk_at "go"
    refine w_for ?_
    refine ⟨_, rfl, a, rfl, ⟨_, s0.seq hS⟩, ?_⟩
    refine for_list (K := K) (a := a) (xs := vs) (fun i σ H1 => ∃ us v2 v3 v4 v5 v6 v7, σ = [some (.ref a), some (.ref f), v2, v3, v4, v5, v6, v7] ∧ H1 f = some (.lst us) ∧ Ps K H1 us ((ps.take i).foldl PM.glue []) ∧ Same H H1)
      ⟨[], _, _, _, _, _, _, rfl, h0, .nil, s0⟩ (fun i σ H1 _ ⟨_, _, _, _, _, _, _, _, _, _, s1⟩ => s1.seq hS) ?_ ?_
    · rintro i x σ H1 hi ⟨us, v2, v3, v4, v5, v6, v7, rfl, hf, hU, s1⟩
      obtain ⟨p, hp, hx⟩ := paired_get hP hi
      obtain ⟨b, rfl, hb⟩ := hx.tu (.of s1)
      have hil : i < vs.length := (List.getElem?_eq_some_iff.mp hi).1
      have hul := paired_len hU
      have hgl := foldl_glue_len (ps.take i) []
      rw [List.length_take] at hgl
      simp only [List.length_nil] at hgl
      have hst : (ps.take (i + 1)).foldl PM.glue [] = PM.glue ((ps.take i).foldl PM.glue []) p := by rw [take_snoc hp, List.foldl_append]; rfl
      have hul2 : us.length ≤ 60000 := by omega
      rw [hst]
      generalize (ps.take i).foldl PM.glue [] = acc at hU hul hgl ⊢
      walk_at "go"
      refine Evl.q_cut (M := fun σ H2 => (∃ v5 v6 v7, σ = [some (.ref a), some (.ref f), some (.int p.1), some (.int p.2.1), some (.int p.2.2), v5, v6, v7]) ∧ Same H1 H2 ∧ PM.glue acc p = acc ++ [p]) ?_ ?_
      · walk_at "go"
        intro e H2 n2 s2 h2
        refine w_neP0 (s2 _ _ hf) (ps_tu hU (.of s2)) h2 ?_
        walk_at "go"
        rcases List.eq_nil_or_concat acc with rfl | ⟨acc', q, rfl⟩
        · refine iteF ?_
          walk_at "go"
          exact ⟨⟨_, _, _, rfl⟩, s2, rfl⟩
        · rw [List.concat_eq_append] at *
          obtain ⟨us', u, rfl, hU', hu⟩ := paired_last hU
          rw [decide_eq_false (by simp)]
          refine iteT ?_
          obtain ⟨c, rfl, hc⟩ := hu.tu (.of s2)
          have hf2 := s2 _ _ hf
          walk_at "go"
          refine w_ixL (lof hf2) atI_snoc ?_
          walk_at "go"
          have no : ¬ (q.1 = p.1 ∧ q.2.1 + q.2.2 = p.2.1) → PM.glue (acc' ++ [q]) p = acc' ++ [q] ++ [p] := fun z => by rw [PM.glue_snoc, if_neg z]
          refine ite2 (fun e1 => ?_) (fun e1 => ?_)
          · have e1 := of_decide_eq_true e1
            walk_at "go"
            refine ite2 (fun e2 => ?_) (fun e2 => ?_)
            · have e2 := of_decide_eq_true e2
              walk_at "go"
              intro t H3 n3 s3 h3
              walk_at "go"
              refine w_setL (s3 _ _ hf2) ixN_snoc (fun H4 b4 h4 => ?_)
              rw [set_snoc] at h4
              walk_at "go"
              have s4 : Same H1 H3 := s2.trans s3
              have t4 : Tu H1 H4 := (Tu.of s4).trans (b4.tu (s3 _ _ hf2))
              refine ⟨_, _, _, _, _, _, _, rfl, h4, ?_, b4.same n0 ((s1.trans s4))⟩
              rw [PM.glue_snoc, if_pos ⟨e1, e2⟩]
              refine paired_append (ps_tu hU' t4) (.cons ⟨t, rfl, (b4.tu (s3 _ _ hf2)).tup (tof h3)⟩ .nil)
            · have e2 := fun z => e2 (decide_eq_true z)
              walk_at "go"
              exact ⟨⟨_, _, _, rfl⟩, s2, no fun z => e2 z.2⟩
          · have e1 := fun z => e1 (decide_eq_true z)
            walk_at "go"
            exact ⟨⟨_, _, _, rfl⟩, s2, no fun z => e1 z.1⟩
      · rintro σ H2 ⟨⟨v5, v6, v7, rfl⟩, s2, hg⟩
        have hf2 := s2 _ _ hf
        walk_at "go"
        intro t H3 n3 s3 h3
        walk_at "go"
        refine w_append (s3 _ _ hf2) (sz1 (by omega)) (fun H4 b4 h4 => ?_)
        walk_at "go"
        have s4 : Same H1 H3 := s2.trans s3
        have t4 : Tu H1 H4 := (Tu.of s4).trans (b4.tu (s3 _ _ hf2))
        refine ⟨_, _, _, _, _, _, _, rfl, h4, ?_, b4.same n0 (s1.trans s4)⟩
        rw [hg]
        exact paired_append (ps_tu hU t4) (.cons ⟨t, rfl, (b4.tu (s3 _ _ hf2)).tup (tof h3)⟩ .nil)
    · rintro σ H1 ⟨us, v2, v3, v4, v5, v6, v7, rfl, hf, hU, s1⟩
      walk_at "go"
      intro t H2 n2 s2 h2
      refine k _ _ (s1.trans s2) ⟨t, us, rfl, tof h2, ?_⟩
      rw [hlen, List.take_length] at hU
      exact ps_tu hU (.of s2)
end
end Fz
/-! ### the parts module, further -/
namespace Fz
open PySem L2
section
variable {P : Program} {w : World} {K : PySem.W.Frag} {mg : Str → Option Value} {base : Heap}
theorem ahead_snoc : ∀ (ps : List PM.Part) (p : PM.Part) (n : Int), PM.aheadOf (ps ++ [p]) n = PM.aheadOf ps n ++ (if 0 < n - PM.sizeOf ps then [(p.1, p.2.1, if n - PM.sizeOf ps < p.2.2 then n - PM.sizeOf ps else p.2.2)] else [])
  | [], p, n => by
    have e : n - PM.sizeOf [] = n := by simp [PM.sizeOf]
    rw [e]
    simp [PM.aheadOf]
  | q :: r, p, n => by
    have ih := ahead_snoc r p (n - q.2.2)
    have e : n - q.2.2 - PM.sizeOf r = n - PM.sizeOf (q :: r) := by simp [PM.sizeOf]; omega
    rw [e] at ih
    rw [List.cons_append, PM.aheadOf, ih, PM.aheadOf, List.append_assoc]
theorem from_snoc : ∀ (ps : List PM.Part) (p : PM.Part) (n : Int), PM.fromOn (ps ++ [p]) n = PM.fromOn ps n ++ (if n - PM.sizeOf ps < p.2.2 then [(p.1, p.2.1 + (if n - PM.sizeOf ps > 0 then n - PM.sizeOf ps else 0), p.2.2 - (if n - PM.sizeOf ps > 0 then n - PM.sizeOf ps else 0))] else [])
  | [], p, n => by
    have e : n - PM.sizeOf [] = n := by simp [PM.sizeOf]
    rw [e]
    simp [PM.fromOn]
  | q :: r, p, n => by
    have ih := from_snoc r p (n - q.2.2)
    have e : n - q.2.2 - PM.sizeOf r = n - PM.sizeOf (q :: r) := by simp [PM.sizeOf]; omega
    rw [e] at ih
    rw [List.cons_append, PM.fromOn, ih, PM.fromOn, List.append_assoc]
theorem size_snoc (ps : List PM.Part) (p : PM.Part) : PM.sizeOf (ps ++ [p]) = PM.sizeOf ps + p.2.2 := by simp [PM.sizeOf]
theorem ahead_len : ∀ (ps : List PM.Part) (n : Int), (PM.aheadOf ps n).length ≤ ps.length
  | [], n => by simp [PM.aheadOf]
  | p :: r, n => by
    have := ahead_len r (n - p.2.2)
    rw [PM.aheadOf, List.length_append, List.length_cons]
    split <;> simp <;> omega
theorem from_len : ∀ (ps : List PM.Part) (n : Int), (PM.fromOn ps n).length ≤ ps.length
  | [], n => by simp [PM.fromOn]
  | p :: r, n => by
    have := from_len r (n - p.2.2)
    rw [PM.fromOn, List.length_append, List.length_cons]
    split <;> simp <;> omega
/-- what a new list of parts is told by -/
abbrev RetPs (K : PySem.W.Frag) (H : Hp) (ps : List PM.Part) (Q : VK) : Prop := ∀ l us H', H l = none → Same H H' → H' l = some (.lst us) → Ps K H' us ps → Q (.ref l) H'
def spAhead (K : PySem.W.Frag) : Sp := fun vs H Q _ => ∃ v n ps, vs = [v, .int n] ∧ PsT K H v ps ∧ ps.length ≤ 50000 ∧ RetPs K H (PM.aheadOf ps n) Q
theorem ok_ahead_of (M : Md K mg) : Df P w K mg base CX0 1 "ahead_of" ["parts", "place"] (spAhead K) := by
  obtain ⟨fd, F⟩ := M.d_ahead_of
  refine ⟨⟨fd, F.ok sc_ahead_of (fun vs H Q E h => ?_) (fun cdv A outer s H vs Q E hr h => ?_), F.bindsN fun _ _ _ _ _ _ us hl => match us, hl with | [_, _], _ => rfl⟩, M.g_ahead_of, F.kp⟩
  · obtain ⟨v, n, ps, rfl, _⟩ := h
    rfl
  · obtain ⟨v, n, ps, rfl, ⟨a, vs, rfl, hS, hP⟩, hl, k⟩ := h
    have hlen := paired_len hP
    refine ⟨_, PSs.nox (pss_cons (ps_par (i := 2) (j := 3) (by rfl) sc_ahead_of.nd rfl rfl (by decide) rfl rfl (pa_cons (pe_lstN pa_nil) (pa_cons (pv 1) pa_nil)) (by rfl))
 (pss_cons (ps_for PassesOwn.never rfl (k_itup (K := K) rfl (pv 0)) (k_gtup (K := K) (n := 3) rfl rfl (pgs_cons (pg_name (i := 4) sc_ahead_of.nd rfl (Or.inl rfl)) (pgs_cons (pg_name (i := 5) sc_ahead_of.nd rfl (Or.inl rfl)) (pgs_cons (pg_name (i := 6) sc_ahead_of.nd rfl (Or.inl rfl)) pgs_nil))))
 (pss_cons (ps_if (pt_cmpR op_gt (pv 3) pe_int (nomark _))
 (pss_one (ps_expr (k_bm (K := K) rfl PySem.F.plainAttrs_list PySem.F.slot_list_append PySem.F.type_list_append mt_appN (pv 2) (pa_cons (pe_tupN (pa_cons (pv 4) (pa_cons (pv 5) (pa_cons (pe_callB (call_minN rfl) (by rfl) M.z_min bt_min (pa_cons (pv 6) (pa_cons (pv 3) pa_nil))) pa_nil)))) pa_nil))))
 pss_nil)
 (pss_one (ps_aug (i := 3) sc_ahead_of.nd rfl (Or.inl rfl) (pv 6) ip_sub))))
 (pss_one (ps_ret (pv 2))))), ?_⟩
    try dsimp only [cxOf, Cx.nox]
    walk_at "go"
    intro f H0 n0 s0 h0
    walk_at "go"
    refine w_for ?_
    refine ⟨_, rfl, a, rfl, ⟨_, same_tup s0 hS⟩, ?_⟩
    refine for_tup (K := K) (a := a) (xs := vs) (fun i σ H1 => ∃ us m v4 v5 v6, σ = [some (.ref a), some (.int n), some (.ref f), some (.int m), v4, v5, v6] ∧ m = n - PM.sizeOf (ps.take i) ∧ H1 f = some (.lst us) ∧ Ps K H1 us (PM.aheadOf (ps.take i) n) ∧ Same H H1)
      ⟨[], n, _, _, _, rfl, by simp [PM.sizeOf], h0, .nil, s0⟩ (fun i σ H1 _ ⟨_, _, _, _, _, _, _, _, _, s1⟩ => same_tup s1 hS) ?_ ?_
    · rintro i x σ H1 hi ⟨us, m, v4, v5, v6, rfl, hm, hf, hU, s1⟩
      obtain ⟨p, hp, hx⟩ := paired_get hP hi
      obtain ⟨b, rfl, hb⟩ := hx.tu (.of s1)
      have hul := paired_len hU
      have hal := ahead_len (ps.take i) n
      rw [List.length_take] at hal
      rw [take_snoc hp, ahead_snoc, size_snoc, ← hm]
      have em : m - p.2.2 = n - (PM.sizeOf (ps.take i) + p.2.2) := by omega
      walk_at "go"
      refine ite2 (fun h => ?_) (fun h => ?_)
      · have h := of_decide_eq_true h
        walk_at "go"
        intro t H2 n2 s2 h2
        walk_at "go"
        refine w_append (s2 _ _ hf) (sz1 (by omega)) (fun H3 b3 h3 => ?_)
        walk_at "go"
        have t3 : Tu H1 H3 := (Tu.of s2).trans (b3.tu (s2 _ _ hf))
        refine ⟨_, _, _, _, _, rfl, em, h3, ?_, b3.same n0 (s1.trans s2)⟩
        rw [if_pos h]
        exact paired_append (ps_tu hU t3) (.cons ⟨t, rfl, (b3.tu (s2 _ _ hf)).tup (tof h2)⟩ .nil)
      · have h := fun z => h (decide_eq_true z)
        walk_at "go"
        refine ⟨_, _, _, _, _, rfl, em, hf, ?_, s1⟩
        rw [if_neg h, List.append_nil]
        exact hU
    · rintro σ H1 ⟨us, m, v4, v5, v6, rfl, hm, hf, hU, s1⟩
      walk_at "go"
      rw [hlen, List.take_length] at hU
      exact k f us H1 n0 s1 hf hU
def spFrom (K : PySem.W.Frag) : Sp := fun vs H Q _ => ∃ v n ps, vs = [v, .int n] ∧ PsT K H v ps ∧ ps.length ≤ 50000 ∧ RetPs K H (PM.fromOn ps n) Q
theorem ok_from_on (M : Md K mg) : Df P w K mg base CX0 1 "from_on" ["parts", "place"] (spFrom K) := by
  obtain ⟨fd, F⟩ := M.d_from_on
  refine ⟨⟨fd, F.ok sc_from_on (fun vs H Q E h => ?_) (fun cdv A outer s H vs Q E hr h => ?_), F.bindsN fun _ _ _ _ _ _ us hl => match us, hl with | [_, _], _ => rfl⟩, M.g_from_on, F.kp⟩
  · obtain ⟨v, n, ps, rfl, _⟩ := h
    rfl
  · obtain ⟨v, n, ps, rfl, ⟨a, vs, rfl, hS, hP⟩, hl, k⟩ := h
    have hlen := paired_len hP
    refine ⟨_, PSs.nox (pss_cons (ps_par (i := 2) (j := 3) (by rfl) sc_from_on.nd rfl rfl (by decide) rfl rfl (pa_cons (pe_lstN pa_nil) (pa_cons (pv 1) pa_nil)) (by rfl))
 (pss_cons (ps_for PassesOwn.never rfl (k_itup (K := K) rfl (pv 0)) (k_gtup (K := K) (n := 3) rfl rfl (pgs_cons (pg_name (i := 4) sc_from_on.nd rfl (Or.inl rfl)) (pgs_cons (pg_name (i := 5) sc_from_on.nd rfl (Or.inl rfl)) (pgs_cons (pg_name (i := 6) sc_from_on.nd rfl (Or.inl rfl)) pgs_nil))))
 (pss_cons (ps_if (pt_cmpR op_lt (pv 3) (pv 6) (nomark _))
 (pss_one (ps_expr (k_bm (K := K) rfl PySem.F.plainAttrs_list PySem.F.slot_list_append PySem.F.type_list_append mt_appN (pv 2) (pa_cons (pe_tupN (pa_cons (pv 4) (pa_cons (pe_op op_add (pv 5) (pe_callB (call_maxN rfl) (by rfl) M.z_max bt_max (pa_cons pe_int (pa_cons (pv 3) pa_nil)))) (pa_cons (pe_op op_sub (pv 6) (pe_callB (call_maxN rfl) (by rfl) M.z_max bt_max (pa_cons pe_int (pa_cons (pv 3) pa_nil)))) pa_nil)))) pa_nil))))
 pss_nil)
 (pss_one (ps_aug (i := 3) sc_from_on.nd rfl (Or.inl rfl) (pv 6) ip_sub))))
 (pss_one (ps_ret (pv 2))))), ?_⟩
    try dsimp only [cxOf, Cx.nox]
    walk_at "go"
    intro f H0 n0 s0 h0
    walk_at "go"
    refine w_for ?_
    refine ⟨_, rfl, a, rfl, ⟨_, same_tup s0 hS⟩, ?_⟩
    refine for_tup (K := K) (a := a) (xs := vs) (fun i σ H1 => ∃ us m v4 v5 v6, σ = [some (.ref a), some (.int n), some (.ref f), some (.int m), v4, v5, v6] ∧ m = n - PM.sizeOf (ps.take i) ∧ H1 f = some (.lst us) ∧ Ps K H1 us (PM.fromOn (ps.take i) n) ∧ Same H H1)
      ⟨[], n, _, _, _, rfl, by simp [PM.sizeOf], h0, .nil, s0⟩ (fun i σ H1 _ ⟨_, _, _, _, _, _, _, _, _, s1⟩ => same_tup s1 hS) ?_ ?_
    · rintro i x σ H1 hi ⟨us, m, v4, v5, v6, rfl, hm, hf, hU, s1⟩
      obtain ⟨p, hp, hx⟩ := paired_get hP hi
      obtain ⟨b, rfl, hb⟩ := hx.tu (.of s1)
      have hul := paired_len hU
      have hal := from_len (ps.take i) n
      rw [List.length_take] at hal
      rw [take_snoc hp, from_snoc, size_snoc, ← hm]
      have em : m - p.2.2 = n - (PM.sizeOf (ps.take i) + p.2.2) := by omega
      walk_at "go"
      refine ite2 (fun h => ?_) (fun h => ?_)
      · have h := of_decide_eq_true h
        walk_at "go"
        intro t H2 n2 s2 h2
        walk_at "go"
        refine w_append (s2 _ _ hf) (sz1 (by omega)) (fun H3 b3 h3 => ?_)
        walk_at "go"
        have t3 : Tu H1 H3 := (Tu.of s2).trans (b3.tu (s2 _ _ hf))
        refine ⟨_, _, _, _, _, rfl, em, h3, ?_, b3.same n0 (s1.trans s2)⟩
        rw [if_pos h]
        exact paired_append (ps_tu hU t3) (.cons ⟨t, rfl, (b3.tu (s2 _ _ hf)).tup (tof h2)⟩ .nil)
      · have h := fun z => h (decide_eq_true z)
        walk_at "go"
        refine ⟨_, _, _, _, _, rfl, em, hf, ?_, s1⟩
        rw [if_neg h, List.append_nil]
        exact hU
    · rintro σ H1 ⟨us, m, v4, v5, v6, rfl, hm, hf, hU, s1⟩
      walk_at "go"
      rw [hlen, List.take_length] at hU
      exact k f us H1 n0 s1 hf hU
def spSpliced (K : PySem.W.Frag) : Sp := fun vs H Q _ => ∃ v m n ps qs, vs = [v, m, .int n] ∧ PsT K H v ps ∧ PsT K H m qs ∧ ps.length ≤ 10000 ∧ qs.length ≤ 10000 ∧ ∀ r H', Same H H' → PsT K H' r (PM.put ps qs n) → Q r H'
theorem ok_spliced (M : Md K mg) : Df P w K mg base CX0 2 "spliced" ["parts", "more", "place"] (spSpliced K) := by
  have D_as_one := ok_as_one (P := P) (w := w) (base := base) M
  have D_ahead_of := ok_ahead_of (P := P) (w := w) (base := base) M
  have D_from_on := ok_from_on (P := P) (w := w) (base := base) M
  have D_size_of := ok_size_of (P := P) (w := w) (base := base) M
  obtain ⟨fd, F⟩ := M.d_spliced
  refine ⟨⟨fd, F.ok sc_spliced (fun vs H Q E h => ?_) (fun cdv A outer s H vs Q E hr h => ?_), F.bindsN fun _ _ _ _ _ _ us hl => match us, hl with | [_, _, _], _ => rfl⟩, M.g_spliced, F.kp⟩
  · obtain ⟨v, m, n, ps, qs, rfl, _⟩ := h
    rfl
  · obtain ⟨v, m, n, ps, qs, rfl, hT, hM, hl, hl2, k⟩ := h
    refine ⟨_, PSs.nox (pss_one (ps_ret (pe_cl D_as_one (hr.mono (by decide)) (by rfl) pass0 (pa_cons (pe_op op_catN (pe_op op_catN (pe_cl D_ahead_of (hr.mono (by decide)) (by rfl) pass0 (pa_cons (pv 0) (pa_cons (pv 2) pa_nil))) (pe_callTy (k_list (K := K) rfl) (by rfl) M.z_list bt_list (pa_cons (pv 1) pa_nil))) (pe_cl D_from_on (hr.mono (by decide)) (by rfl) pass0 (pa_cons (pv 0) (pa_cons (pe_op op_add (pv 2) (pe_cl D_size_of (hr.mono (by decide)) (by rfl) pass0 (pa_cons (pv 1) pa_nil))) pa_nil)))) pa_nil)))), ?_⟩
    try dsimp only [cxOf, Cx.nox]
    walk_at "go"
    refine ⟨_, _, _, rfl, hT, by omega, fun l1 u1 H1 n1 s1 h1 p1 => ?_⟩
    obtain ⟨b, ms, rfl, hbS, hbP⟩ := id hM
    have hbS1 := same_tup s1 hbS
    walk_at "go"
    intro l2 H2 n2 s2 h2
    have hbl := paired_len hbP
    have a1 := ahead_len ps n
    have a2 := paired_len p1
    refine w_cat (s2 _ _ h1) h2 (sz (by omega)) ?_
    intro l3 H3 n3 s3 h3
    have S3 : Same H H3 := (s1.trans s2).trans s3
    walk_at "go"
    refine ⟨_, _, rfl, hM.same S3, by omega, fun H4 s4 => ?_⟩
    walk_at "go"
    have S4 : Same H H4 := S3.trans s4
    refine ⟨_, _, _, rfl, hT.same S4, by omega, fun l5 u5 H5 n5 s5 h5 p5 => ?_⟩
    have f1 := from_len ps (n + PM.sizeOf qs)
    have f2 := paired_len p5
    walk_at "go"
    have T35 : Same H3 H5 := s4.trans s5
    refine w_cat (T35 _ _ h3) h5 (sz (by simp; omega)) ?_
    intro l6 H6 n6 s6 h6
    walk_at "go"
    have S6 : Same H H6 := (S4.trans s5).trans s6
    have T16 : Same H1 H6 := (s2.trans s3).trans (T35.trans s6)
    refine ⟨l6, _, rfl, ⟨_, lof h6, paired_append (paired_append (ps_tu p1 (.of T16)) (ps_tu hbP (.of S6))) (ps_tu p5 (.of s6))⟩, ?_, fun r H7 s7 hr7 => k r H7 (S6.trans s7) hr7⟩
    simp only [List.length_append]
    omega
def spFirst (K : PySem.W.Frag) : Sp := fun vs H Q _ => ∃ v n ps, vs = [v, .int n] ∧ PsT K H v ps ∧ ps.length ≤ 10000 ∧ ∀ r H', Same H H' → PsT K H' r (PM.cut ps n) → Q r H'
theorem ok_first_of (M : Md K mg) : Df P w K mg base CX0 2 "first_of" ["parts", "many"] (spFirst K) := by
  have D_as_one := ok_as_one (P := P) (w := w) (base := base) M
  have D_ahead_of := ok_ahead_of (P := P) (w := w) (base := base) M
  obtain ⟨fd, F⟩ := M.d_first_of
  refine ⟨⟨fd, F.ok sc_first_of (fun vs H Q E h => ?_) (fun cdv A outer s H vs Q E hr h => ?_), F.bindsN fun _ _ _ _ _ _ us hl => match us, hl with | [_, _], _ => rfl⟩, M.g_first_of, F.kp⟩
  · obtain ⟨v, n, ps, rfl, _⟩ := h
    rfl
  · obtain ⟨v, n, ps, rfl, hT, hl, k⟩ := h
    refine ⟨_, PSs.nox (pss_one (ps_ret (pe_cl D_as_one (hr.mono (by decide)) (by rfl) pass0 (pa_cons (pe_cl D_ahead_of (hr.mono (by decide)) (by rfl) pass0 (pa_cons (pv 0) (pa_cons (pv 1) pa_nil))) pa_nil)))), ?_⟩
    try dsimp only [cxOf, Cx.nox]
    walk_at "go"
    refine ⟨_, _, _, rfl, hT, by omega, fun l1 u1 H1 n1 s1 h1 p1 => ?_⟩
    walk_at "go"
    have a1 := ahead_len ps n
    exact ⟨l1, _, rfl, ⟨_, lof h1, p1⟩, by omega, fun r H7 s7 hr7 => k r H7 (s1.trans s7) hr7⟩
def spLength (K : PySem.W.Frag) : Sp := fun vs H Q _ => ∃ v ps, vs = [v] ∧ PsT K H v ps ∧ PM.Good ps ∧ ps.length ≤ 10000 ∧ ∀ H', Same H H' → Q (.int (PM.sizeOf ps)) H'
theorem ok_length (M : Md K mg) : Df P w K mg base CX0 5 "length" ["parts"] (spLength K) := by
  have D_check_parts := ok_check_parts (P := P) (w := w) (base := base) M
  have D_size_of := ok_size_of (P := P) (w := w) (base := base) M
  obtain ⟨fd, F⟩ := M.d_length
  refine ⟨⟨fd, F.ok sc_length (fun vs H Q E h => ?_) (fun cdv A outer s H vs Q E hr h => ?_), F.bindsN fun _ _ _ _ _ _ us hl => match us, hl with | [_], _ => rfl⟩, M.g_length, F.kp⟩
  · obtain ⟨v, ps, rfl, _⟩ := h
    rfl
  · obtain ⟨v, ps, rfl, hT, hG, hl, k⟩ := h
    refine ⟨_, PSs.nox (pss_cons (ps_expr (pe_cl D_check_parts (hr.mono (by decide)) (by rfl) pass0 (pa_cons (pv 0) pa_nil)))
 (pss_one (ps_ret (pe_cl D_size_of (hr.mono (by decide)) (by rfl) pass0 (pa_cons (pv 0) pa_nil))))), ?_⟩
    try dsimp only [cxOf, Cx.nox]
    walk_at "go"
    refine ⟨_, _, rfl, hT, hG, by omega, fun H1 s1 => ?_⟩
    walk_at "go"
    exact ⟨_, _, rfl, hT.same s1, by omega, fun H2 s2 => k _ (s1.trans s2)⟩
def spCut (K : PySem.W.Frag) : Sp := fun vs H Q _ => ∃ v n ps, vs = [v, .int n] ∧ PsT K H v ps ∧ PM.Good ps ∧ ps.length ≤ 10000 ∧ 0 ≤ n ∧ n ≤ PM.sizeOf ps ∧ ∀ r H', Same H H' → PsT K H' r (PM.cut ps n) → Q r H'
theorem ok_cut (M : Md K mg) : Df P w K mg base CX0 5 "cut" ["parts", "many"] (spCut K) := by
  have D_check_parts := ok_check_parts (P := P) (w := w) (base := base) M
  have D_check_place := ok_check_place (P := P) (w := w) (base := base) M
  have D_size_of := ok_size_of (P := P) (w := w) (base := base) M
  have D_first_of := ok_first_of (P := P) (w := w) (base := base) M
  obtain ⟨fd, F⟩ := M.d_cut
  refine ⟨⟨fd, F.ok sc_cut (fun vs H Q E h => ?_) (fun cdv A outer s H vs Q E hr h => ?_), F.bindsN fun _ _ _ _ _ _ us hl => match us, hl with | [_, _], _ => rfl⟩, M.g_cut, F.kp⟩
  · obtain ⟨v, n, ps, rfl, _⟩ := h
    rfl
  · obtain ⟨v, n, ps, rfl, hT, hG, hl, h0, h1, k⟩ := h
    refine ⟨_, PSs.nox (pss_cons (ps_expr (pe_cl D_check_parts (hr.mono (by decide)) (by rfl) pass0 (pa_cons (pv 0) pa_nil)))
 (pss_cons (ps_expr (pe_cl D_check_place (hr.mono (by decide)) (by rfl) pass0 (pa_cons (pv 1) (pa_cons (pe_cl D_size_of (hr.mono (by decide)) (by rfl) pass0 (pa_cons (pv 0) pa_nil)) pa_nil))))
 (pss_one (ps_ret (pe_cl D_first_of (hr.mono (by decide)) (by rfl) pass0 (pa_cons (pv 0) (pa_cons (pv 1) pa_nil))))))), ?_⟩
    try dsimp only [cxOf, Cx.nox]
    walk_at "go"
    refine ⟨_, _, rfl, hT, hG, by omega, fun H1 s1 => ?_⟩
    walk_at "go"
    refine ⟨_, _, rfl, hT.same s1, by omega, fun H2 s2 => ?_⟩
    walk_at "go"
    refine ⟨_, _, rfl, h0, h1, fun H3 s3 => ?_⟩
    walk_at "go"
    have S3 := (s1.trans s2).trans s3
    exact ⟨_, _, _, rfl, hT.same S3, hl, fun r H4 s4 h4 => k _ _ (S3.trans s4) h4⟩
/-- put: the place a number, or None -/
def spPut (K : PySem.W.Frag) : Sp := fun vs H Q _ => ∃ v m pl n ps qs, vs = [v, m, pl] ∧ ((pl = .non ∧ n = PM.sizeOf ps) ∨ pl = .int n) ∧ PsT K H v ps ∧ PsT K H m qs ∧ PM.Good ps ∧ PM.Good qs ∧ ps.length ≤ 10000 ∧ qs.length ≤ 10000 ∧ 0 ≤ n ∧ n ≤ PM.sizeOf ps ∧ ∀ r H', Same H H' → PsT K H' r (PM.put ps qs n) → Q r H'
theorem ok_put (M : Md K mg) {fd : FuncData} (F : FunD K "put" "put" (defArgs s_put) (defBody s_put) (defScope s_put) [] [("place", .non)] (He.ga K "put") fd) : FnOk P w K mg base CX0 5 (He.ga K "put") fd ["parts", "more", "place"] (spPut K) := by
  have D_check_parts := ok_check_parts (P := P) (w := w) (base := base) M
  have D_check_place := ok_check_place (P := P) (w := w) (base := base) M
  have D_size_of := ok_size_of (P := P) (w := w) (base := base) M
  have D_spliced := ok_spliced (P := P) (w := w) (base := base) M
  refine F.ok sc_put (fun vs H Q E h => ?_) (fun cdv A outer s H vs Q E hr h => ?_)
  · obtain ⟨v, m, pl, n, ps, qs, rfl, _⟩ := h
    rfl
  · obtain ⟨v, m, pl, n, ps, qs, rfl, hpl, hT, hM, hG, hGm, hl, hl2, h0, h1, k⟩ := h
    refine ⟨_, PSs.nox (pss_cons (ps_expr (pe_cl D_check_parts (hr.mono (by decide)) (by rfl) pass0 (pa_cons (pv 0) pa_nil)))
 (pss_cons (ps_expr (pe_cl D_check_parts (hr.mono (by decide)) (by rfl) pass0 (pa_cons (pv 1) pa_nil)))
 (pss_cons (ps_set (i := 3) sc_put.nd rfl (Or.inl rfl) (pe_cl D_size_of (hr.mono (by decide)) (by rfl) pass0 (pa_cons (pv 0) pa_nil)))
 (pss_cons (ps_set (i := 4) sc_put.nd rfl (Or.inl rfl) (pe_ifExp (pt_cmpR op_isNN (pv 2) pe_non (nomark _)) (pv 3) (pv 2)))
 (pss_cons (ps_expr (pe_cl D_check_place (hr.mono (by decide)) (by rfl) pass0 (pa_cons (pv 4) (pa_cons (pv 3) pa_nil))))
 (pss_one (ps_ret (pe_cl D_spliced (hr.mono (by decide)) (by rfl) pass0 (pa_cons (pv 0) (pa_cons (pv 1) (pa_cons (pv 4) pa_nil))))))))))), ?_⟩
    try dsimp only [cxOf, Cx.nox]
    walk_at "go"
    refine ⟨_, _, rfl, hT, hG, by omega, fun H1 s1 => ?_⟩
    walk_at "go"
    refine ⟨_, _, rfl, hM.same s1, hGm, by omega, fun H2 s2 => ?_⟩
    have S2 := s1.trans s2
    walk_at "go"
    refine ⟨_, _, rfl, hT.same S2, by omega, fun H3 s3 => ?_⟩
    have S3 := S2.trans s3
    walk_at "go"
    rcases hpl with ⟨rfl, rfl⟩ | rfl
    · rw [decide_eq_true (rfl : V.non = V.non)]
      walk_at "go"
      refine ⟨_, _, rfl, h0, h1, fun H4 s4 => ?_⟩
      have S4 := S3.trans s4
      walk_at "go"
      exact ⟨_, _, _, _, _, rfl, hT.same S4, hM.same S4, hl, hl2, fun r H5 s5 h5 => k _ _ (S4.trans s5) h5⟩
    · rw [decide_eq_false (fun z => nomatch z)]
      walk_at "go"
      refine ⟨_, _, rfl, h0, h1, fun H4 s4 => ?_⟩
      have S4 := S3.trans s4
      walk_at "go"
      exact ⟨_, _, _, _, _, rfl, hT.same S4, hM.same S4, hl, hl2, fun r H5 s5 h5 => k _ _ (S4.trans s5) h5⟩
end
end Fz
/-! ### the law's own defs: purse and draws -/
namespace Fz
open PySem L2
section
variable {P : Program} {w : World} {K : PySem.W.Frag} {mg : Str → Option Value} {base : Heap}
theorem fmod_range (a : Int) {n : Int} (h : 0 < n) : 0 ≤ a.fmod n ∧ a.fmod n < n := by
  rw [Int.fmod_eq_emod_of_nonneg _ (Int.le_of_lt h)]
  exact ⟨Int.emod_nonneg _ (by omega), Int.emod_lt_of_pos _ h⟩
theorem fdiv_range {a n : Int} (h : 0 < n) (ha : 0 ≤ a) : 0 ≤ a.fdiv n ∧ a.fdiv n ≤ a := by
  rw [Int.fdiv_eq_ediv_of_nonneg _ (Int.le_of_lt h)]
  exact ⟨Int.ediv_nonneg ha (Int.le_of_lt h), Int.ediv_le_self _ ha⟩
theorem atI_mem {xs : List V} {r : Int} (h0 : 0 ≤ r) (h1 : r < xs.length) : ∃ v, v ∈ xs ∧ atI xs r = some v := by
  have hl : r.toNat < xs.length := by omega
  refine ⟨xs[r.toNat], List.getElem_mem hl, ?_⟩
  unfold atI ixN
  rw [if_pos h0, if_pos h1]
  exact List.getElem?_eq_getElem hl
/-- the purse: a new list of two numbers, from a cell of the script -/
def spPurse (K : PySem.W.Frag) : Sp := fun vs H Q _ => ∃ (a : Addr) (ns : List Int) (k : Nat), vs = [.ref a, .int k] ∧ SqL K H a (ns.map V.int) ∧ ns.length ≤ 63 ∧ k ≤ 100 ∧ ∀ p H', H p = none → Same H H' → Pur H' p → Q (.ref p) H'
theorem atI_zero {x : V} {xs : List V} : atI (x :: xs) 0 = some x := by
  unfold atI ixN
  rw [if_pos (Int.le_refl 0), if_pos (by simp)]
  rfl
theorem cut_one (ns : List Int) (k : Nat) : ∃ z, cutV (ns.map V.int) (some (k : Int)) (some ((k : Int) + 1)) ++ [V.int 0] = V.int z :: (cutV (ns.map V.int) (some (k : Int)) (some ((k : Int) + 1)) ++ [V.int 0]).tail := by
  cases e : cutV (ns.map V.int) (some (k : Int)) (some ((k : Int) + 1)) with
  | nil => exact ⟨0, rfl⟩
  | cons v r =>
    have hv : v ∈ ns.map V.int := by
      have : v ∈ cutV (ns.map V.int) (some (k : Int)) (some ((k : Int) + 1)) := by rw [e]; exact List.mem_cons_self ..
      unfold cutV at this
      exact List.mem_of_mem_drop (List.mem_of_mem_take this)
    rw [List.mem_map] at hv
    obtain ⟨z, _, rfl⟩ := hv
    exact ⟨z, rfl⟩
theorem ok_law_purse (M : Md K mg) : Df P w K mg base CX0 1 "_law_purse" ["_law_script", "_law_k"] (spPurse K) := by
  obtain ⟨fd, F⟩ := M.d_law_purse
  refine ⟨⟨fd, F.ok sc_law_purse (fun vs H Q E h => ?_) (fun cdv A outer s H vs Q E hr h => ?_), F.bindsN fun _ _ _ _ _ _ us hl => match us, hl with | [_, _], _ => rfl⟩, M.g_law_purse, F.kp⟩
  · obtain ⟨a, ns, k, rfl, _⟩ := h
    rfl
  · obtain ⟨a, ns, k, rfl, hS, hn, hk, kk⟩ := h
    refine ⟨_, PSs.nox (pss_cons (ps_set (i := 2) sc_law_purse.nd rfl (Or.inl rfl) (pe_ix (k_ixL (K := K) rfl) (pe_op op_catN (pe_slice (k_slL (K := K) rfl) (pv 0) (po_some (pv 1)) (po_some (pe_op op_add (pv 1) pe_int))) (pe_lstN (pa_cons pe_int pa_nil))) pe_int (fun _ _ => rfl)))
 (pss_cons (ps_if (PW.pt (pw_or (pt_cmpR op_ge (pv 2) (pe_op op_pow pe_int pe_int) (nomark _)) (pw_or1 (pt_cmpR op_lt (pv 2) pe_int (nomark _)))))
 (pss_one (ps_ret (pe_lstN (pa_cons (pe_callB (call_maxN rfl) (by rfl) M.z_max bt_max (pa_cons (pv 2) (pa_cons (pe_op op_sub (pe_un un_neg pe_int) (pv 2)) pa_nil))) (pa_cons pe_int pa_nil)))))
 pss_nil)
 (pss_one (ps_ret (pe_lstN (pa_cons pe_int (pa_cons (pe_op op_add pe_int (pe_op op_modN (pe_op op_add (pe_op op_mul (pv 2) pe_int) (pe_op op_mul (pe_op op_mul (pe_op op_add (pv 1) pe_int) pe_int) (pe_op op_add (pv 1) pe_int))) pe_int)) pa_nil))))))), ?_⟩
    try dsimp only [cxOf, Cx.nox]
    walk_at "go"
    intro l1 H1 n1 s1 h1
    walk_at "go"
    intro l2 H2 n2 s2 h2
    have hc := cutV_length (ns.map V.int) (some (k : Int)) (some ((k : Int) + 1))
    rw [List.length_map] at hc
    refine w_cat (s2 _ _ h1) h2 (sz (by simp; omega)) ?_
    intro l3 H3 n3 s3 h3
    obtain ⟨z, hz⟩ := cut_one ns k
    rw [hz] at h3
    walk_at "go"
    refine w_ixL (lof h3) atI_zero ?_
    walk_at "go"
    refine w_I ⟨by decide, by decide, by decide⟩ ?_
    walk_at "go"
    have S3 : Same H H3 := (s1.trans s2).trans s3
    have big : ∀ m : Int, ∀ t H4, H3 t = none → Same H3 H4 → H4 t = some (.lst [.int m, .int 0]) → Q (.ref t) H4 := fun m t H4 n4 s4 h4 =>
      kk t H4 (S3.free n4) (S3.trans s4) ⟨m, 0, h4, by decide, by decide⟩
    refine ite2 (fun e1 => ?_) (fun e1 => ?_)
    · walk_at "go"
      intro t H4 n4 s4 h4
      walk_at "go"
      exact big _ t H4 n4 s4 h4
    · have e1 := fun q => e1 (decide_eq_true q)
      walk_at "go"
      refine ite2 (fun e2 => ?_) (fun e2 => ?_)
      · walk_at "go"
        intro t H4 n4 s4 h4
        walk_at "go"
        exact big _ t H4 n4 s4 h4
      · have e2 : ¬ z < 0 := fun q => e2 (decide_eq_true q)
        walk_at "go"
        have e3 : ¬ (10 : Int) ^ 18 ≤ z := e1
        have zb : z < 10 ^ 18 := by omega
        refine w_I (.inl ⟨by omega, by omega⟩) ?_
        walk_at "go"
        refine w_I (.inl ⟨by omega, by omega⟩) ?_
        walk_at "go"
        refine w_I (.inl ⟨by omega, by omega⟩) ?_
        walk_at "go"
        refine w_I (by decide) ?_
        walk_at "go"
        intro t H4 n4 s4 h4
        walk_at "go"
        have fm := fmod_range (z * 48271 + ((k : Int) + 1) * 69621 * ((k : Int) + 7)) (n := 2147483629) (by decide)
        exact kk t H4 (S3.free n4) (S3.trans s4) ⟨_, _, h4, by omega, by omega⟩
/-- a draw: a number below n; the purse goes on -/
def spTake : Sp := fun vs H Q _ => ∃ (p : Addr) (n : Int), vs = [.ref p, .int n] ∧ 0 < n ∧ n < 1000000 ∧ Pur H p ∧ ∀ (r : Int) H', 0 ≤ r → r < n → Go p H H' → Q (.int r) H'
theorem ok_law_take (M : Md K mg) : Df P w K mg base CX0 1 "_law_take" ["_law_purse_here", "_law_span"] spTake := by
  obtain ⟨fd, F⟩ := M.d_law_take
  refine ⟨⟨fd, F.ok sc_law_take (fun vs H Q E h => ?_) (fun cdv A outer s H vs Q E hr h => ?_), F.bindsN fun _ _ _ _ _ _ us hl => match us, hl with | [_, _], _ => rfl⟩, M.g_law_take, F.kp⟩
  · obtain ⟨p, n, rfl, _⟩ := h
    rfl
  · obtain ⟨p, n, rfl, hn, hn2, ⟨a, b, hp, hb, hb2⟩, k⟩ := h
    refine ⟨_, PSs.nox (pss_cons (ps_if (pt_cmpR op_eq (pe_ix (k_ixL (K := K) rfl) (pv 0) pe_int (fun _ _ => rfl)) pe_int (nomark _))
 (pss_cons (ps_set (i := 2) sc_law_take.nd rfl (Or.inl rfl) (pe_op op_modN (pe_ix (k_ixL (K := K) rfl) (pv 0) pe_int (fun _ _ => rfl)) (pv 1)))
 (pss_cons (ps_asg (pe_op op_fdivN (pe_ix (k_ixL (K := K) rfl) (pv 0) pe_int (fun _ _ => rfl)) (pv 1)) (pg_sub (pv 0) pe_int set_listN))
 (pss_one (ps_ret (pv 2)))))
 pss_nil)
 (pss_cons (ps_asg (pe_op op_add pe_int (pe_op op_modN (pe_op op_add (pe_op op_mul (pe_ix (k_ixL (K := K) rfl) (pv 0) pe_int (fun _ _ => rfl)) pe_int) pe_int) pe_int)) (pg_sub (pv 0) pe_int set_listN))
 (pss_one (ps_ret (pe_op op_modN (pe_op op_fdivN (pe_op op_modN (pe_op op_mul (pe_ix (k_ixL (K := K) rfl) (pv 0) pe_int (fun _ _ => rfl)) pe_int) pe_int) pe_int) (pv 1)))))), ?_⟩
    try dsimp only [cxOf, Cx.nox]
    walk_at "go"
    refine ite2 (fun e => ?_) (fun e => ?_)
    · have e := of_decide_eq_true e
      subst e
      walk_at "go"
      refine w_I (by omega) ?_
      walk_at "go"
      refine w_I ⟨by omega, by omega⟩ ?_
      walk_at "go"
      intro H1 b1 h1
      have fm := fmod_range a hn
      walk_at "go"
      exact k _ _ fm.1 fm.2 ⟨b1, b1.tu hp, _, _, h1, by decide, by decide⟩
    · walk_at "go"
      refine w_I (.inl ⟨by omega, by omega⟩) ?_
      walk_at "go"
      refine w_I (by decide) ?_
      walk_at "go"
      intro H1 b1 h1
      have fm := fmod_range (b * 39373 + 7919) (n := 2147483587) (by decide)
      have h1' : H1 p = some (.lst [.int a, .int (1 + (b * 39373 + 7919).fmod 2147483587)]) := h1
      generalize (b * 39373 + 7919).fmod 2147483587 = c at *
      walk_at "go"
      refine w_I (.inl ⟨by omega, by omega⟩) ?_
      walk_at "go"
      refine w_I (by decide) ?_
      walk_at "go"
      refine w_I ⟨by decide, by decide⟩ ?_
      walk_at "go"
      refine w_I (by omega) ?_
      walk_at "go"
      have f2 := fmod_range ((((1 + c) * 30269).fmod 2147483563).fdiv 11) hn
      exact k _ _ f2.1 f2.2 ⟨b1, b1.tu hp, _, _, h1', by omega, by omega⟩
def spLWhole : Sp := fun vs H Q _ => ∃ n : Int, vs = [.int n] ∧ ∀ H', Same H H' → Q (.bl true) H'
theorem ok_law_whole (M : Md K mg) : Df P w K mg base CX0 1 "_law_whole" ["_law_matter"] spLWhole := by
  obtain ⟨fd, F⟩ := M.d_law_whole
  refine ⟨⟨fd, F.ok sc_law_whole (fun vs H Q E h => ?_) (fun cdv A outer s H vs Q E hr h => ?_), F.bindsN fun _ _ _ _ _ _ us hl => match us, hl with | [_], _ => rfl⟩, M.g_law_whole, F.kp⟩
  · obtain ⟨n, rfl, _⟩ := h
    rfl
  · obtain ⟨n, rfl, k⟩ := h
    refine ⟨_, PSs.nox (pss_one (ps_ret (pe_and (pe_callB (k_isi (K := K) rfl) (by rfl) M.z_isinstance bt_isinstance (pa_cons (pv 0) (pa_cons (pe_bltn (v := .ty "int") (by rfl) M.z_int bt_int rfl) pa_nil))) (pe_one (pe_not (pe_callB (k_isi (K := K) rfl) (by rfl) M.z_isinstance bt_isinstance (pa_cons (pv 0) (pa_cons (pe_bltn (v := .ty "bool") (by rfl) M.z_bool bt_bool rfl) pa_nil)))))))), ?_⟩
    try dsimp only [cxOf, Cx.nox]
    walk_at "go"
    exact k _ (Same.refl _)
end
end Fz
/-! ### the law's own defs about parts and cells -/
namespace Fz
open PySem L2
section
variable {P : Program} {w : World} {K : PySem.W.Frag} {mg : Str → Option Value} {base : Heap}
/-- a new list of cells -/
abbrev RetCs (K : PySem.W.Frag) (H : Hp) (cs : List PM.Cell) (Q : VK) : Prop := ∀ l us H', H l = none → Same H H' → H' l = some (.lst us) → Cs K H' us cs → Q (.ref l) H'
def spEach (K : PySem.W.Frag) : Sp := fun vs H Q _ => ∃ v ps, vs = [v] ∧ PsT K H v ps ∧ PM.Pos ps ∧ (PM.each ps).length ≤ 50000 ∧ RetCs K H (PM.each ps) Q
theorem mon_cell (l : List PM.Cell) : Mon (fun i v H => ∃ x, l[i]? = some x ∧ IsC K H v x) := fun _ _ _ _ ⟨x, e, h⟩ t => ⟨x, e, h.tu t⟩
theorem each_take (ps : List PM.Part) (i : Nat) : (PM.each (ps.take i)).length ≤ (PM.each ps).length := by
  have e : PM.each ps = PM.each (ps.take i) ++ PM.each (ps.drop i) := by rw [← PM.each_append, List.take_append_drop]
  rw [e, List.length_append]
  omega
theorem ok_law_each (M : Md K mg) : Df P w K mg base CX0 1 "_law_each" ["_law_lot"] (spEach K) := by
  obtain ⟨fd, F⟩ := M.d_law_each
  refine ⟨⟨fd, F.ok sc_law_each (fun vs H Q E h => ?_) (fun cdv A outer s H vs Q E hr h => ?_), F.bindsN fun _ _ _ _ _ _ us hl => match us, hl with | [_], _ => rfl⟩, M.g_law_each, F.kp⟩
  · obtain ⟨v, ps, rfl, _⟩ := h
    rfl
  · obtain ⟨v, ps, rfl, ⟨a, vs, rfl, hS, hP⟩, hG, hl, k⟩ := h
    have hlen := paired_len hP
    refine ⟨_, PSs.nox (pss_cons (ps_set (i := 1) sc_law_each.nd rfl (Or.inl rfl) (pe_lstN pa_nil))
 (pss_cons (ps_for PassesOwn.never rfl (k_itup (K := K) rfl (pv 0)) (k_gtup (K := K) (n := 3) rfl rfl (pgs_cons (pg_name (i := 2) sc_law_each.nd rfl (Or.inr rfl)) (pgs_cons (pg_name (i := 3) sc_law_each.nd rfl (Or.inr rfl)) (pgs_cons (pg_name (i := 4) sc_law_each.nd rfl (Or.inl rfl)) pgs_nil))))
 (pss_one (ps_expr (k_bm (K := K) rfl PySem.F.plainAttrs_list PySem.F.slot_list_extend PySem.F.type_list_extend mt_extN (pv 1) (pa_cons (pe_lc (own := [("_law_k", 5)]) (g := (gName 5)) rfl sc_law_each.nd (pi_range1 (by rfl) M.z_range (pa_cons (pv 4) pa_nil)) (blkOk_by (own := [("_law_k", 5)]) (N := ["_law_lot", "_law_found", "_law_piece", "_law_first", "_law_size", "_law_k"]) (sc := defScope s_law_each) (by decide +kernel)) (fun _ _ _ _ _ => (pg_name (i := 5) sc_law_each.nd rfl (Or.inl rfl))) (fun _ _ _ _ _ => pts_nil) (fun _ _ _ _ _ => (pe_tupN (pa_cons (pv 2) (pa_cons (pe_op op_add (pv 3) (pv 5)) pa_nil))))) pa_nil)))))
 (pss_one (ps_ret (pv 1))))), ?_⟩
    try dsimp only [cxOf, Cx.nox]
    walk_at "go"
    intro f H0 n0 s0 h0
    walk_at "go"
    refine w_for ?_
    refine ⟨_, rfl, a, rfl, ⟨_, same_tup s0 hS⟩, ?_⟩
    refine for_tup (K := K) (a := a) (xs := vs) (fun i σ H1 => ∃ us v2 v3 v4 v5, σ = [some (.ref a), some (.ref f), v2, v3, v4, v5] ∧ H1 f = some (.lst us) ∧ Cs K H1 us (PM.each (ps.take i)) ∧ Same H H1)
      ⟨[], _, _, _, _, rfl, h0, .nil, s0⟩ (fun i σ H1 _ ⟨_, _, _, _, _, _, _, _, s1⟩ => same_tup s1 hS) ?_ ?_
    · rintro i x σ H1 hi ⟨us, v2, v3, v4, v5, rfl, hf, hU, s1⟩
      obtain ⟨p, hp, hx⟩ := paired_get hP hi
      obtain ⟨b, rfl, hb⟩ := hx.tu (.of s1)
      have hul := paired_len hU
      have he : PM.each (ps.take (i + 1)) = PM.each (ps.take i) ++ PM.each1 p := by rw [take_snoc hp, PM.each_append, PM.each_one]
      have hel := each_take ps (i + 1)
      rw [he, List.length_append] at hel
      have h1l := PM.each1_length p
      have hpp := hG p (List.mem_of_getElem? hp)
      rw [he]
      walk_at "go"
      refine w_lcR p.2.2 (fun i v H => ∃ x, (PM.each1 p)[i]? = some x ∧ IsC K H v x) (mon_cell _) (by omega) (fun j H2 hj s2 Q' q => ?_) (fun D H2 acc n s2 hD hT => ?_) _ (by omega) (fun R r => ⟨_, rfl, r⟩)
      · refine ⟨rfl, ?_⟩
        walk_at "go"
        intro t H3 n3 s3 h3
        refine q _ _ s3 ⟨(p.1, p.2.1 + (0 + (j : Int))), ?_, t, rfl, tof h3⟩
        unfold PM.each1
        rw [List.getElem?_map, List.getElem?_range (by omega), Int.zero_add]
        rfl
      · rw [← h1l] at hT
        have hC := lct_paired (G := fun v x H => IsC K H v x) hT
        have hcl := paired_len hC
        walk_at "go"
        refine w_extend (s2 _ _ hf) hD (sz (by omega)) (fun H3 b3 h3 => ?_)
        walk_at "go"
        have t3 : Tu H2 H3 := b3.tu (s2 _ _ hf)
        exact ⟨_, _, _, _, _, rfl, h3, paired_append (cs_tu hU ((Tu.of s2).trans t3)) (cs_tu hC t3), b3.same n0 (s1.trans s2)⟩
    · rintro σ H1 ⟨us, v2, v3, v4, v5, rfl, hf, hU, s1⟩
      walk_at "go"
      rw [hlen, List.take_length] at hU
      exact k f us H1 n0 s1 hf hU
/-- a list of cells at a -/
def CsL (K : PySem.W.Frag) (H : Hp) (a : Addr) (cs : List PM.Cell) : Prop := ∃ vs, SqL K H a vs ∧ Cs K H vs cs
def spRuns (K : PySem.W.Frag) : Sp := fun vs H Q _ => ∃ a cs, vs = [.ref a] ∧ CsL K H a cs ∧ cs.length ≤ 50000 ∧ ∀ v H', Same H H' → PsT K H' v (PM.runs cs) → Q v H'
theorem foldl_runs_len : ∀ (cs : List PM.Cell) (acc : List PM.Part), (cs.foldl (fun acc c => PM.glue acc (c.1, c.2, 1)) acc).length ≤ acc.length + cs.length
  | [], acc => by simp
  | p :: r, acc => by
    have h1 := foldl_runs_len r (PM.glue acc (p.1, p.2, 1))
    have h2 := glue_len acc (p.1, p.2, 1)
    simp only [List.foldl_cons, List.length_cons]
    omega
theorem runs_len (cs : List PM.Cell) : (PM.runs cs).length ≤ cs.length := by
  have := foldl_runs_len cs []
  simpa [PM.runs] using this
theorem ok_law_runs (M : Md K mg) : Df P w K mg base CX0 1 "_law_runs" ["_law_row"] (spRuns K) := by
  obtain ⟨fd, F⟩ := M.d_law_runs
  refine ⟨⟨fd, F.ok sc_law_runs (fun vs H Q E h => ?_) (fun cdv A outer s H vs Q E hr h => ?_), F.bindsN fun _ _ _ _ _ _ us hl => match us, hl with | [_], _ => rfl⟩, M.g_law_runs, F.kp⟩
  · obtain ⟨a, cs, rfl, _⟩ := h
    rfl
  · obtain ⟨a, cs, rfl, ⟨vs, hS, hP⟩, hl, k⟩ := h
    have hlen := paired_len hP
    refine ⟨_, PSs.nox (pss_cons (ps_set (i := 1) sc_law_runs.nd rfl (Or.inl rfl) (pe_lstN pa_nil))
 (pss_cons (ps_for PassesOwn.never rfl (k_ilist (K := K) rfl (pv 0)) (k_gtup (K := K) (n := 2) rfl rfl (pgs_cons (pg_name (i := 2) sc_law_runs.nd rfl (Or.inl rfl)) (pgs_cons (pg_name (i := 3) sc_law_runs.nd rfl (Or.inl rfl)) pgs_nil)))
 (pss_one (ps_if (PW.pt (pw_and (pt_cmpR (k_neD (K := K) rfl hr.units) (pv 1) (pe_lstN pa_nil) (nomark _)) (pw_and (pt_cmpR op_eq (pe_ix (k_ixT (K := K) rfl) (pe_ix (k_ixL (K := K) rfl) (pv 1) (pe_un un_neg pe_int) (fun _ _ => rfl)) pe_int (fun _ _ => rfl)) (pv 2) (nomark _)) (pw_and1 (pt_cmpR op_eq (pe_op op_add (pe_ix (k_ixT (K := K) rfl) (pe_ix (k_ixL (K := K) rfl) (pv 1) (pe_un un_neg pe_int) (fun _ _ => rfl)) pe_int (fun _ _ => rfl)) (pe_ix (k_ixT (K := K) rfl) (pe_ix (k_ixL (K := K) rfl) (pv 1) (pe_un un_neg pe_int) (fun _ _ => rfl)) pe_int (fun _ _ => rfl))) (pv 3) (nomark _))))))
 (pss_one (ps_asg (pe_tupN (pa_cons (pv 2) (pa_cons (pe_ix (k_ixT (K := K) rfl) (pe_ix (k_ixL (K := K) rfl) (pv 1) (pe_un un_neg pe_int) (fun _ _ => rfl)) pe_int (fun _ _ => rfl)) (pa_cons (pe_op op_add (pe_ix (k_ixT (K := K) rfl) (pe_ix (k_ixL (K := K) rfl) (pv 1) (pe_un un_neg pe_int) (fun _ _ => rfl)) pe_int (fun _ _ => rfl)) pe_int) pa_nil)))) (pg_sub (pv 1) (pe_un un_neg pe_int) set_listN)))
 (pss_one (ps_expr (k_bm (K := K) rfl PySem.F.plainAttrs_list PySem.F.slot_list_append PySem.F.type_list_append mt_appN (pv 1) (pa_cons (pe_tupN (pa_cons (pv 2) (pa_cons (pv 3) (pa_cons pe_int pa_nil)))) pa_nil)))))))
 (pss_one (ps_ret (pe_callTy (k_tuple (K := K) rfl) (by rfl) M.z_tuple bt_tuple (pa_cons (pv 1) pa_nil)))))), ?_⟩
    try dsimp only [cxOf, Cx.nox]
    walk_at "go"
    intro f H0 n0 s0 h0
    walk_at "go"
    refine w_for ?_
    refine ⟨_, rfl, a, rfl, ⟨_, s0.seq hS⟩, ?_⟩
    refine for_list (K := K) (a := a) (xs := vs) (fun i σ H1 => ∃ us v2 v3, σ = [some (.ref a), some (.ref f), v2, v3] ∧ H1 f = some (.lst us) ∧ Ps K H1 us ((cs.take i).foldl (fun acc c => PM.glue acc (c.1, c.2, 1)) []) ∧ Same H H1)
      ⟨[], _, _, rfl, h0, .nil, s0⟩ (fun i σ H1 _ ⟨_, _, _, _, _, _, s1⟩ => s1.seq hS) ?_ ?_
    · rintro i x σ H1 hi ⟨us, v2, v3, rfl, hf, hU, s1⟩
      obtain ⟨c, hc, hx⟩ := paired_get hP hi
      obtain ⟨b, rfl, hb⟩ := hx.tu (.of s1)
      have hil : i < vs.length := (List.getElem?_eq_some_iff.mp hi).1
      have hul := paired_len hU
      have hgl := foldl_runs_len (cs.take i) []
      rw [List.length_take] at hgl
      simp only [List.length_nil] at hgl
      have hst : (cs.take (i + 1)).foldl (fun acc c => PM.glue acc (c.1, c.2, 1)) [] = PM.glue ((cs.take i).foldl (fun acc c => PM.glue acc (c.1, c.2, 1)) []) (c.1, c.2, 1) := by rw [take_snoc hc, List.foldl_append]; rfl
      have hul2 : us.length ≤ 60000 := by omega
      rw [hst]
      generalize (cs.take i).foldl (fun acc c => PM.glue acc (c.1, c.2, 1)) [] = acc at hU hul hgl ⊢
      walk_at "go"
      intro e H2 n2 s2 h2
      have hf2 := s2 _ _ hf
      refine w_neP0 hf2 (ps_tu hU (.of s2)) h2 ?_
      walk_at "go"
      have app : ∀ (Z : VK), PM.glue acc (c.1, c.2, 1) = acc ++ [(c.1, c.2, 1)] → (∀ t H3 H4, Same H2 H3 → But f H3 H4 → Tu H2 H4 → H4 f = some (.lst (us ++ [.ref t])) → Ps K H4 (us ++ [.ref t]) (PM.glue acc (c.1, c.2, 1)) → Same H H4 → Z .non H4) →
          tBM K "list" rAppN (tVar 1) (tCons (tTupN (tCons (tVar 2) (tCons (tVar 3) (tCons (tC (.int 1)) tNil)))) tNil) [some (.ref a), some (.ref f), some (.int c.1), some (.int c.2)] H2 Z := fun Z hg kz => by
        walk_at "go"
        intro t H3 n3 s3 h3
        walk_at "go"
        refine w_append (s3 _ _ hf2) (sz1 (by omega)) (fun H4 b4 h4 => ?_)
        have t4 : Tu H2 H4 := (Tu.of s3).trans (b4.tu (s3 _ _ hf2))
        refine kz t H3 H4 s3 b4 t4 h4 ?_ (b4.same n0 ((s1.trans s2).trans s3))
        rw [hg]
        exact paired_append (ps_tu hU ((Tu.of s2).trans t4)) (.cons ⟨t, rfl, (b4.tu (s3 _ _ hf2)).tup (tof h3)⟩ .nil)
      rcases List.eq_nil_or_concat acc with rfl | ⟨acc', q, rfl⟩
      · refine iteF ?_
        walk_at "go1"
        walk_at "go1"
        exact app _ rfl fun t H3 H4 _ _ _ h4 p4 s4 => ⟨_, _, _, rfl, h4, p4, s4⟩
      · rw [List.concat_eq_append] at *
        obtain ⟨us', u, rfl, hU', hu⟩ := paired_last hU
        rw [decide_eq_false (by simp)]
        refine iteT ?_
        obtain ⟨d, rfl, hd⟩ := hu.tu (.of s2)
        have no : ¬ (q.1 = c.1 ∧ q.2.1 + q.2.2 = c.2) → PM.glue (acc' ++ [q]) (c.1, c.2, 1) = acc' ++ [q] ++ [(c.1, c.2, 1)] := fun z => by rw [PM.glue_snoc, if_neg z]
        walk_at "go"
        refine w_ixL (lof hf2) atI_snoc ?_
        walk_at "go"
        refine ite2 (fun e1 => ?_) (fun e1 => ?_)
        · have e1 := of_decide_eq_true e1
          walk_at "go"
          refine w_ixL (lof hf2) atI_snoc ?_
          walk_at "go"
          refine w_ixL (lof hf2) atI_snoc ?_
          walk_at "go"
          refine ite2 (fun e2 => ?_) (fun e2 => ?_)
          · have e2 := of_decide_eq_true e2
            walk_at "go"
            refine w_ixL (lof hf2) atI_snoc ?_
            walk_at "go"
            refine w_ixL (lof hf2) atI_snoc ?_
            walk_at "go"
            intro t H3 n3 s3 h3
            walk_at "go"
            refine w_setL (s3 _ _ hf2) ixN_snoc (fun H4 b4 h4 => ?_)
            rw [set_snoc] at h4
            walk_at "go"
            have t4 : Tu H1 H4 := ((Tu.of s2).trans (.of s3)).trans (b4.tu (s3 _ _ hf2))
            refine ⟨_, _, _, rfl, h4, ?_, b4.same n0 ((s1.trans s2).trans s3)⟩
            rw [PM.glue_snoc, if_pos ⟨e1, e2⟩]
            exact paired_append (ps_tu hU' t4) (.cons ⟨t, rfl, (b4.tu (s3 _ _ hf2)).tup (tof h3)⟩ .nil)
          · have e2 := fun z => e2 (decide_eq_true z)
            walk_at "go1"
            exact app _ (no fun z => e2 z.2) fun t H3 H4 _ _ _ h4 p4 s4 => ⟨_, _, _, rfl, h4, p4, s4⟩
        · have e1 := fun z => e1 (decide_eq_true z)
          walk_at "go1"
          walk_at "go1"
          exact app _ (no fun z => e1 z.1) fun t H3 H4 _ _ _ h4 p4 s4 => ⟨_, _, _, rfl, h4, p4, s4⟩
    · rintro σ H1 ⟨us, v2, v3, rfl, hf, hU, s1⟩
      walk_at "go"
      intro t H2 n2 s2 h2
      refine k _ _ (s1.trans s2) ⟨t, us, rfl, tof h2, ?_⟩
      rw [hlen, List.take_length] at hU
      exact ps_tu hU (.of s2)
end
end Fz
/-! ### parts compared -/
namespace Fz
open PySem L2
section
variable {P : Program} {w : World} {K : PySem.W.Frag} {mg : Str → Option Value} {base : Heap}
def spIs (K : PySem.W.Frag) : Sp := fun vs H Q _ => ∃ x y ps qs, vs = [x, y] ∧ PsT K H x ps ∧ PsT K H y qs ∧ ps.length ≤ 50000 ∧ ∀ H', Same H H' → Q (.bl (decide (ps = qs))) H'
theorem ok_law_is (M : Md K mg) : Df P w K mg base CX0 2 "_law_is" ["_law_found", "_law_due"] (spIs K) := by
  have D__law_whole := ok_law_whole (P := P) (w := w) (base := base) M
  obtain ⟨fd, F⟩ := M.d_law_is
  refine ⟨⟨fd, F.ok sc_law_is (fun vs H Q E h => ?_) (fun cdv A outer s H vs Q E hr h => ?_), F.bindsN fun _ _ _ _ _ _ us hl => match us, hl with | [_, _], _ => rfl⟩, M.g_law_is, F.kp⟩
  · obtain ⟨x, y, ps, qs, rfl, _⟩ := h
    rfl
  · obtain ⟨x, y, ps, qs, rfl, hT, hY, hl, k⟩ := h
    obtain ⟨a, vs, rfl, hS, hP⟩ := id hT
    have hlen := paired_len hP
    refine ⟨_, PSs.nox (pss_cons (ps_if (PW.pt (pw_or (pt_not (pt_val (pe_callB (k_isi (K := K) rfl) (by rfl) M.z_isinstance bt_isinstance (pa_cons (pv 0) (pa_cons (pe_bltn (v := .ty "tuple") (by rfl) M.z_tuple bt_tuple rfl) pa_nil))))) (pw_or1 (pt_not (pt_val (pe_callB (k_all (K := K) rfl rfl) (by rfl) M.z_all bt_all (pa_cons (pe_lc (own := [("_law_part", 2)]) (g := (gName 2)) rfl sc_law_is.nd (k_itup (K := K) rfl (pv 0)) (blkOk_by (own := [("_law_part", 2)]) (N := ["_law_found", "_law_due", "_law_part", "_law_one"]) (sc := defScope s_law_is) (by decide +kernel)) (fun _ _ _ _ _ => (pg_name (i := 2) sc_law_is.nd rfl (Or.inl rfl))) (fun _ _ _ _ _ => pts_nil) (fun _ _ _ _ _ => (pe_and (pe_callB (k_isi (K := K) rfl) (by rfl) M.z_isinstance bt_isinstance (pa_cons (pv 2) (pa_cons (pe_bltn (v := .ty "tuple") (by rfl) M.z_tuple bt_tuple rfl) pa_nil))) (pe_one (pe_cmpR op_eq (pe_callB (k_len (K := K) rfl) (by rfl) M.z_len bt_len (pa_cons (pv 2) pa_nil)) pe_int (nomark _)))))) pa_nil)))))))
 (pss_one (ps_ret pe_bl))
 pss_nil)
 (pss_one (ps_ret (pe_and (pe_callB (k_all (K := K) rfl rfl) (by rfl) M.z_all bt_all (pa_cons (pe_lc (own := [("_law_part", 2)]) (g := (gName 2)) rfl sc_law_is.nd (k_itup (K := K) rfl (pv 0)) (blkOk_by (own := [("_law_part", 2)]) (N := ["_law_found", "_law_due", "_law_part", "_law_one"]) (sc := defScope s_law_is) (by decide +kernel)) (fun _ _ _ _ _ => (pg_name (i := 2) sc_law_is.nd rfl (Or.inl rfl))) (fun _ _ _ _ _ => pts_nil) (fun _ _ _ _ _ => by exact (pe_callB (k_all (K := K) rfl rfl) (by rfl) M.z_all bt_all (pa_cons (pe_lc (own := [("_law_one", 3)]) (g := (gName 3)) rfl sc_law_is.nd (k_itup (K := K) rfl (pv 2)) (blkOk_by (own := [("_law_one", 3)]) (by kernel_rfl)) (fun _ _ _ _ _ => (pg_name (i := 3) sc_law_is.nd rfl (Or.inl rfl))) (fun _ _ _ _ _ => pts_nil) (fun _ _ _ _ _ => (pe_cl D__law_whole (hr.mono (by decide)) (by rfl) pass0 (pa_cons (pv 3) pa_nil)))) pa_nil)))) pa_nil)) (pe_one (pe_cmpR (k_eqD (K := K) rfl hr.units) (pv 0) (pv 1) (nomark _))))))), ?_⟩
    try dsimp only [cxOf, Cx.nox]
    walk_at "go"
    refine w_lcT (K := K) (a := a) (fun i v _ => v = .bl ((fun _ => true) i)) (mon_const _) hS (by omega) (fun i x H1 hi s1 Q' q => ?_) (fun D H1 acc n s1 hD hA => ?_) _ (fun R r => ⟨_, rfl, r⟩)
    · obtain ⟨p, hp, hx⟩ := paired_get hP hi
      obtain ⟨b, rfl, hb⟩ := hx.tu (.of s1)
      refine ⟨rfl, ?_⟩
      walk_at "go"
      exact q _ _ (Same.refl _) rfl
    · have e := LcT.map V.bl (fun _ => true) hA
      subst e
      walk_at "go"
      refine w_all (lof hD) ?_
      rw [all_true]
      have hS1 := same_tup s1 hS
      walk_at "go"
      refine w_lcT (K := K) (a := a) (fun i v _ => v = .bl ((fun _ => true) i)) (mon_const _) hS1 (by omega) (fun i x H2 hi s2 Q' q => ?_) (fun D2 H2 acc n2 s2 hD2 hA2 => ?_) _ (fun R r => ⟨_, rfl, r⟩)
      · obtain ⟨p, hp, hx⟩ := paired_get hP hi
        obtain ⟨b, rfl, hb⟩ := hx.tu (.of (s1.trans s2))
        refine ⟨rfl, ?_⟩
        walk_at "go"
        refine w_lcT (K := K) (a := b) (fun i v _ => v = .bl ((fun _ => true) i)) (mon_const _) hb (by simp) (fun i x H3 hi s3 Q' q => ?_) (fun D3 H3 acc n3 s3 hD3 hA3 => ?_) _ (fun R r => ⟨_, rfl, r⟩)
        · have : ∃ n, x = .int n := by
            match i, hi with
            | 0, hi => simp at hi; exact ⟨_, hi.symm⟩
            | 1, hi => simp at hi; exact ⟨_, hi.symm⟩
            | 2, hi => simp at hi; exact ⟨_, hi.symm⟩
            | n + 3, hi => simp at hi
          obtain ⟨n, rfl⟩ := this
          refine ⟨rfl, ?_⟩
          walk_at "go"
          exact ⟨n, rfl, fun H4 s4 => q _ _ s4 rfl⟩
        · have e := LcT.map V.bl (fun _ => true) hA3
          subst e
          walk_at "go"
          refine w_all (lof hD3) ?_
          rw [all_true]
          exact q _ _ s3 rfl
      · have e := LcT.map V.bl (fun _ => true) hA2
        subst e
        walk_at "go"
        refine w_all (lof hD2) ?_
        rw [all_true]
        walk_at "go"
        have S2 := s1.trans s2
        exact w_eqP (hT.same S2) (hY.same S2) (k _ S2)
end
end Fz
/-! ### law k10: cells by pieces, puts and cuts by turns -/
namespace Fz
open PySem L2
section
variable {P : Program} {w : World} {K : PySem.W.Frag} {mg : Str → Option Value} {base : Heap}
theorem cutV_to (xs : List V) (n : Nat) : cutV xs none (some (n : Int)) = xs.take n := by
  unfold cutV
  rw [HT.sIx_nat]
  show (xs.drop 0).take (min n xs.length - 0) = xs.take n
  rw [List.drop_zero, Nat.sub_zero, List.take_eq_take_iff]
  omega
theorem cutV_from (xs : List V) (n : Nat) : cutV xs (some (n : Int)) none = xs.drop n := by
  unfold cutV
  rw [HT.sIx_nat]
  show (xs.drop (min n xs.length)).take (xs.length - min n xs.length) = xs.drop n
  rw [List.take_of_length_le (by simp)]
  by_cases h : n ≤ xs.length
  · rw [Nat.min_eq_left h]
  · rw [Nat.min_eq_right (by omega), List.drop_eq_nil_of_le (by omega), List.drop_eq_nil_of_le (by omega)]
theorem cutV_mid (xs : List V) (a b : Nat) (ha : a ≤ xs.length) : cutV xs (some (a : Int)) (some (b : Int)) = (xs.drop a).take (b - a) := by
  unfold cutV
  rw [HT.sIx_nat, HT.sIx_nat, Nat.min_eq_left ha, List.take_eq_take_iff]
  simp
  omega
/-! a tuple of numbers -/
def IntsT (K : PySem.W.Frag) (H : Hp) (v : V) (ns : List Int) : Prop := ∃ a, v = .ref a ∧ SqT K H a (ns.map V.int)
theorem IntsT.tu {H H' : Hp} {v : V} {ns : List Int} (h : IntsT K H v ns) (t : Tu H H') : IntsT K H' v ns := let ⟨a, e, s⟩ := h; ⟨a, e, t.tup s⟩
theorem dp_ints {H : Hp} : ∀ ns : List Int, DpAll K H (ns.map V.int) (ns.map PyData.int)
  | [] => .nil
  | n :: r => .cons (.int n) (dp_ints r)
theorem IntsT.dp {H : Hp} {v : V} {ns : List Int} (h : IntsT K H v ns) : Dp K H v (.tuple (ns.map PyData.int)) := by
  obtain ⟨a, rfl, s⟩ := h
  exact .tup s (dp_ints ns)
theorem lay_ints : ∀ ns : List Int, PyData.canLayAll0 (ns.map PyData.int) = true
  | [] => rfl
  | n :: r => by rw [List.map_cons, PyData.canLayAll0, lay_ints r]; rfl
theorem depth_ints : ∀ ns : List Int, PyData.depthAll (ns.map PyData.int) = 0
  | [] => rfl
  | n :: r => by rw [List.map_cons, PyData.depthAll, depth_ints r]; rfl
theorem shaped_ints (ns : List Int) : SeqAt.shaped (.tuple (ns.map PyData.int)) = true := by
  unfold SeqAt.shaped
  rw [PyData.canLay0, lay_ints, PyData.depth, depth_ints]
  rfl
theorem eqvAll_ints : ∀ ns ms : List Int, PyData.eqvAll (ns.map PyData.int) (ms.map PyData.int) = decide (ns = ms)
  | [], [] => rfl
  | [], m :: r => rfl
  | n :: r, [] => rfl
  | n :: r, m :: s => by
    rw [List.map_cons, List.map_cons, PyData.eqvAll, eqvAll_ints r s]
    show ((n == m) && decide (r = s)) = decide (n :: r = m :: s)
    rw [Bool.eq_iff_iff]
    simp
theorem w_eqInts {H : Hp} {x y : V} {ns ms : List Int} {Q : VK} (h1 : IntsT K H x ns) (h2 : IntsT K H y ms) (h : Q (.bl (decide (ns = ms))) H) : rEqD K x y H Q :=
  w_eqD h1.dp h2.dp (shaped_ints _) (shaped_ints _) (by rw [PyData.eqv, eqvAll_ints]; exact h)
/-! a list of cells != [] -/
def dC (c : PM.Cell) : PyData := .tuple [.int c.1, .int c.2]
theorem cs_dp {H : Hp} : ∀ {vs : List V} {cs : List PM.Cell}, Cs K H vs cs → DpAll K H vs (cs.map dC)
  | _, _, .nil => .nil
  | _, _, .cons ⟨a, e, s⟩ t => by
    subst e
    exact .cons (.tup s (.cons (.int _) (.cons (.int _) .nil))) (cs_dp t)
theorem lay_cs : ∀ cs : List PM.Cell, PyData.canLayAll0 (cs.map dC) = true
  | [] => rfl
  | p :: r => by rw [List.map_cons, PyData.canLayAll0, lay_cs r]; rfl
theorem depth_cs : ∀ cs : List PM.Cell, PyData.depthAll (cs.map dC) ≤ 1
  | [] => Nat.zero_le _
  | p :: r => by
    rw [List.map_cons, PyData.depthAll]
    have := depth_cs r
    have e : (dC p).depth = 1 := rfl
    rw [e]
    omega
theorem shaped_cs (cs : List PM.Cell) : SeqAt.shaped (.list (cs.map dC)) = true := by
  unfold SeqAt.shaped
  rw [PyData.canLay0, lay_cs, PyData.depth]
  have := depth_cs cs
  simp
  omega
theorem w_neC0 {H : Hp} {vs : List V} {cs : List PM.Cell} {l e : Addr} {Q : VK} (h1 : H l = some (.lst vs)) (hp : Cs K H vs cs) (h2 : H e = some (.lst [])) (h : Q (.bl (!decide (cs = []))) H) : rNeD K (.ref l) (.ref e) H Q :=
  w_neD (.lst (lof h1) (cs_dp hp)) (.lst (lof h2) .nil) (shaped_cs _) (by decide) (by
    have e : PyData.eqv (.list (cs.map dC)) (.list []) = decide (cs = []) := by cases cs <;> rfl
    rw [e]; exact h)
/-! what a dict of pieces holds -/
def HasP (K : PySem.W.Frag) (H : Hp) (kvs : List (Key × V)) (look : Int → List Int) (n : Int) : Prop := ∃ a, valV kvs (Sum.inl n : Key) = some (.ref a) ∧ SqT K H a ((look n).map V.int)
theorem HasP.tu {H H' : Hp} {kvs : List (Key × V)} {look : Int → List Int} {n : Int} (h : HasP K H kvs look n) (t : Tu H H') : HasP K H' kvs look n := let ⟨a, e, s⟩ := h; ⟨a, e, t.tup s⟩
def spCells (K : PySem.W.Frag) : Sp := fun vs H Q _ => ∃ v d ps kvs look, vs = [v, .ref d] ∧ PsT K H v ps ∧ PM.Good ps ∧ ps.length ≤ 10000 ∧ H d = some (.dK kvs) ∧ (∀ p ∈ ps, HasP K H kvs look p.1 ∧ p.2.1 + p.2.2 ≤ ((look p.1).length : Int)) ∧ PM.sizeOf ps ≤ 50000 ∧
  ∀ r H', Same H H' → IntsT K H' r (PM.vals look ps) → Q r H'
theorem ok_cells (M : Md K mg) : Df P w K mg base CX0 5 "cells" ["parts", "pieces"] (spCells K) := by
  have D_check_parts := ok_check_parts (P := P) (w := w) (base := base) M
  obtain ⟨fd, F⟩ := M.d_cells
  refine ⟨⟨fd, F.ok sc_cells (fun vs H Q E h => ?_) (fun cdv A outer s H vs Q E hr h => ?_), F.bindsN fun _ _ _ _ _ _ us hl => match us, hl with | [_, _], _ => rfl⟩, M.g_cells, F.kp⟩
  · obtain ⟨v, d, ps, kvs, look, rfl, _⟩ := h
    rfl
  · obtain ⟨v, d, ps, kvs, look, rfl, hT, hG, hl, hd, hh, hsz, k⟩ := h
    have hu := hu_of hr
    obtain ⟨a, vs, rfl, hS, hP⟩ := id hT
    have hlen := paired_len hP
    refine ⟨_, PSs.nox (pss_cons (ps_expr (pe_cl D_check_parts (hr.mono (by decide)) (by rfl) pass0 (pa_cons (pv 0) pa_nil)))
 (pss_cons (ps_set (i := 2) sc_cells.nd rfl (Or.inl rfl) (pe_lstN pa_nil))
 (pss_cons (ps_for PassesOwn.never rfl (k_itup (K := K) rfl (pv 0)) (k_gtup (K := K) (n := 3) rfl rfl (pgs_cons (pg_name (i := 3) sc_cells.nd rfl (Or.inl rfl)) (pgs_cons (pg_name (i := 4) sc_cells.nd rfl (Or.inl rfl)) (pgs_cons (pg_name (i := 5) sc_cells.nd rfl (Or.inl rfl)) pgs_nil))))
 (pss_cons (ps_set (i := 6) sc_cells.nd rfl (Or.inl rfl) (pe_dget2 hu (pv 1) (pv 3) (pe_tupN pa_nil) ⟨rfl, rfl, rfl, rfl⟩))
 (pss_cons (ps_if (pt_cmpR op_lt (pe_callB (k_len (K := K) rfl) (by rfl) M.z_len bt_len (pa_cons (pv 6) pa_nil)) (pe_op op_add (pv 4) (pv 5)) (nomark _))
 (pss_one ps_never)
 pss_nil)
 (pss_one (ps_expr (k_bm (K := K) rfl PySem.F.plainAttrs_list PySem.F.slot_list_extend PySem.F.type_list_extend (k_extT (K := K) rfl) (pv 2) (pa_cons (pe_slice (k_slTN (K := K) rfl) (pv 6) (po_some (pv 4)) (po_some (pe_op op_add (pv 4) (pv 5)))) pa_nil)))))))
 (pss_one (ps_ret (pe_callTy (k_tuple (K := K) rfl) (by rfl) M.z_tuple bt_tuple (pa_cons (pv 2) pa_nil))))))), ?_⟩
    try dsimp only [cxOf, Cx.nox]
    walk_at "go"
    refine ⟨_, _, rfl, hT, hG, by omega, fun Ha sa => ?_⟩
    walk_at "go"
    intro f H0 n0 s0 h0
    have S0 := sa.trans s0
    walk_at "go"
    refine w_for ?_
    refine ⟨_, rfl, a, rfl, ⟨_, same_tup S0 hS⟩, ?_⟩
    refine for_tup (K := K) (a := a) (xs := vs) (fun i σ H1 => ∃ v3 v4 v5 v6, σ = [some (.ref a), some (.ref d), some (.ref f), v3, v4, v5, v6] ∧ H1 f = some (.lst ((PM.vals look (ps.take i)).map V.int)) ∧ Same H H1)
      ⟨_, _, _, _, rfl, h0, S0⟩ (fun i σ H1 _ ⟨_, _, _, _, _, _, s1⟩ => same_tup s1 hS) ?_ ?_
    · rintro i x σ H1 hi ⟨v3, v4, v5, v6, rfl, hf, s1⟩
      obtain ⟨p, hp, hx⟩ := paired_get hP hi
      obtain ⟨b, rfl, hb⟩ := hx.tu (.of s1)
      have hpm := List.mem_of_getElem? hp
      have hg := hG p hpm
      obtain ⟨⟨c, hv, hc⟩, hfit⟩ := hh p hpm
      have hd1 := s1 _ _ hd
      have hvl := PM.vals_len look (ps.take i) fun q hq => (hG q (List.mem_of_mem_take hq)).2.2
      have hsn := PM.size_nn hG.pos i
      have hps := PM.mem_size hG.pos p hpm
      walk_at "go"
      intro e H2 n2 s2 h2
      have S2 := s1.trans s2
      have hd2 := S2 _ _ hd
      have hc2 := same_tup S2 hc
      refine ⟨some (.ref c), by have z := DGet.k (k := Sum.inl p.1) hd2; rw [hv] at z; exact z, ?_⟩
      show gName 6 (V.ref c) _ _ _
      walk_at "go"
      rw [decide_eq_false (by simp; omega)]
      have hf2 := s2 _ _ hf
      walk_at "go"
      intro b3 H3 s3 h3
      have e1 : p.2.1 = ((p.2.1.toNat : Nat) : Int) := by omega
      have e2 : p.2.1 + p.2.2 = ((p.2.1.toNat + p.2.2.toNat : Nat) : Int) := by omega
      rw [e2, e1, cutV_mid _ _ _ (by simp; omega)] at h3
      have e3 : p.2.1.toNat + p.2.2.toNat - ((p.2.1.toNat : Nat) : Int).toNat = p.2.2.toNat := by omega
      have e4 : (((p.2.1.toNat : Nat) : Int)).toNat = p.2.1.toNat := by omega
      walk_at "go"
      refine w_extT (s3 _ _ hf2) h3 (sz (by simp; omega)) (fun H4 b4 h4 => ?_)
      walk_at "go"
      refine ⟨_, _, _, _, rfl, ?_, b4.same (sa.free n0) (S2.trans s3)⟩
      rw [h4, take_snoc hp]
      unfold PM.vals
      rw [List.flatMap_append, List.map_append]
      congr 3
      simp only [List.flatMap_cons, List.flatMap_nil, List.append_nil, List.map_take, List.map_drop]
      congr 1
    · rintro σ H1 ⟨v3, v4, v5, v6, rfl, hf, s1⟩
      rw [hlen, List.take_length] at hf
      walk_at "go"
      intro t H2 n2 s2 h2
      exact k _ _ (s1.trans s2) ⟨t, rfl, tof h2⟩
/-! the store: pieces 1, 2, .. -/
def kvF : Int → List Addr → List (Key × V)
  | _, [] => []
  | n, a :: r => (Sum.inl n, .ref a) :: kvF (n + 1) r
theorem kvF_len : ∀ (n : Int) (as : List Addr), (kvF n as).length = as.length
  | _, [] => rfl
  | n, a :: r => by rw [kvF, List.length_cons, kvF_len, List.length_cons]
theorem valV_kvF : ∀ (n : Int) (as : List Addr) (k : Int), valV (kvF n as) (Sum.inl k : Key) = if n ≤ k then (as[(k - n).toNat]?).map V.ref else none
  | n, [], k => by
    rw [kvF]
    split
    · rw [List.getElem?_nil]; rfl
    · rfl
  | n, a :: r, k => by
    rw [kvF]
    by_cases e : n = k
    · subst e
      rw [valV_pos rfl, if_pos (Int.le_refl _)]
      have z : (n - n).toNat = 0 := by omega
      rw [z]
      rfl
    · rw [valV_neg (fun z => e (Sum.inl.inj z)), valV_kvF (n + 1) r k]
      by_cases h : n ≤ k
      · rw [if_pos (by omega), if_pos h]
        have z : (k - n).toNat = (k - (n + 1)).toNat + 1 := by omega
        rw [z, List.getElem?_cons_succ]
      · rw [if_neg (by omega), if_neg h]
theorem kvF_snoc : ∀ (n : Int) (as : List Addr) (a : Addr), kvF n (as ++ [a]) = kvF n as ++ [(Sum.inl (n + as.length), .ref a)]
  | n, [], a => by simp [kvF]
  | n, b :: r, a => by
    rw [List.cons_append, kvF, kvF_snoc (n + 1) r a, kvF, List.cons_append]
    have e : n + 1 + (r.length : Int) = n + ((b :: r).length : Int) := by simp; omega
    rw [e]
def look (st : List (List Int)) : Int → List Int := fun k => if 1 ≤ k then (st[(k - 1).toNat]?).getD [] else []
def StAt (K : PySem.W.Frag) (H : Hp) (d : Addr) (st : List (List Int)) : Prop := ∃ as, H d = some (.dK (kvF 1 as)) ∧ Paired (fun a (ns : List Int) => SqT K H a (ns.map V.int)) as st
theorem sts_tu {H H' : Hp} {as : List Addr} {st : List (List Int)} (h : Paired (fun a (ns : List Int) => SqT K H a (ns.map V.int)) as st) (t : Tu H H') : Paired (fun a (ns : List Int) => SqT K H' a (ns.map V.int)) as st := paired_mono (fun _ _ z => t.tup z) h
theorem StAt.mono {H H' : Hp} {d : Addr} {st : List (List Int)} (h : StAt K H d st) (e : ∀ o, H d = some o → H' d = some o) (t : Tu H H') : StAt K H' d st := let ⟨as, h1, h2⟩ := h; ⟨as, e _ h1, sts_tu h2 t⟩
theorem StAt.same {H H' : Hp} {d : Addr} {st : List (List Int)} (h : StAt K H d st) (s : Same H H') : StAt K H' d st := h.mono (fun o e => s _ _ e) (.of s)
theorem look_has {H : Hp} {as : List Addr} {st : List (List Int)} (h : Paired (fun a (ns : List Int) => SqT K H a (ns.map V.int)) as st) {n m : Int} (h0 : 0 ≤ m) (hm : m < ((look st n).length : Int)) : HasP K H (kvF 1 as) (look st) n := by
  unfold look at hm
  by_cases hn : 1 ≤ n
  · rw [if_pos hn] at hm
    cases e : st[(n - 1).toNat]? with
    | none => rw [e] at hm; simp at hm; omega
    | some ns =>
      have hl := paired_len h
      have hlt : (n - 1).toNat < st.length := (List.getElem?_eq_some_iff.mp e).1
      have ha : as[(n - 1).toNat]? = some as[(n - 1).toNat] := List.getElem?_eq_getElem (by omega)
      obtain ⟨ns', e', s⟩ := paired_get h ha
      rw [e] at e'
      cases e'
      refine ⟨as[(n - 1).toNat], ?_, ?_⟩
      · rw [valV_kvF, if_pos hn, ha]
        rfl
      · unfold look
        rw [if_pos hn, e]
        exact s
  · rw [if_neg hn] at hm
    simp at hm
    omega
theorem look_more {st more : List (List Int)} {n m : Int} (h0 : 0 ≤ m) (h : m < ((look st n).length : Int)) : look (st ++ more) n = look st n := by
  unfold look at *
  by_cases hn : 1 ≤ n
  · rw [if_pos hn] at h ⊢
    rw [if_pos hn]
    cases e : st[(n - 1).toNat]? with
    | none => rw [e] at h; simp at h; omega
    | some ns =>
      have hlt : (n - 1).toNat < st.length := (List.getElem?_eq_some_iff.mp e).1
      rw [List.getElem?_append_left hlt, e]
  · rw [if_neg hn] at h
    simp at h
    omega
theorem fits_more {st more : List (List Int)} {row : List PM.Cell} (h : PM.Fits (look st) row) : PM.Fits (look (st ++ more)) row := fun c hc => by
  obtain ⟨h1, h2⟩ := h c hc
  rw [look_more h1 h2]
  exact ⟨h1, h2⟩
end
end Fz
/-! ### law k10: the law's own defs -/
namespace Fz
open PySem L2
section
variable {P : Program} {w : World} {K : PySem.W.Frag} {mg : Str → Option Value} {base : Heap}
def spFew : Sp := fun vs H Q _ => ∃ p : Addr, vs = [.ref p] ∧ Pur H p ∧ ∀ (z : Int) H', Go p H H' → Q (.int z) H'
theorem ok_law_few (M : Md K mg) : Df P w K mg base CX0 2 "_law_few" ["_law_purse_here"] spFew := by
  have D__law_take := ok_law_take (P := P) (w := w) (base := base) M
  obtain ⟨fd, F⟩ := M.d_law_few
  refine ⟨⟨fd, F.ok sc_law_few (fun vs H Q E h => ?_) (fun cdv A outer s H vs Q E hr h => ?_), F.bindsN fun _ _ _ _ _ _ us hl => match us, hl with | [_], _ => rfl⟩, M.g_law_few, F.kp⟩
  · obtain ⟨p, rfl, _⟩ := h
    rfl
  · obtain ⟨p, rfl, hp, k⟩ := h
    refine ⟨_, PSs.nox (pss_one (ps_ret (pe_ix (k_ixL (K := K) rfl) (pe_lstN (pa_cons pe_int (pa_cons pe_int (pa_cons pe_int (pa_cons (pe_un un_neg pe_int) (pa_cons pe_int (pa_cons (pe_op op_pow pe_int pe_int) pa_nil))))))) (pe_cl D__law_take (hr.mono (by decide)) (by rfl) pass0 (pa_cons (pv 0) (pa_cons pe_int pa_nil))) (fun _ _ => rfl)))), ?_⟩
    try dsimp only [cxOf, Cx.nox]
    walk_at "go"
    refine w_I ⟨by decide, by decide, by decide⟩ ?_
    walk_at "go"
    intro l H1 n1 s1 h1
    walk_at "go"
    refine ⟨p, 6, rfl, by decide, by decide, hp.same s1, fun r H2 r0 r1 g2 => ?_⟩
    have h2 := g2.keep _ _ h1 (hp.ne n1)
    obtain ⟨v, hv, ha⟩ := atI_mem (xs := [V.int 0, V.int 1, V.int 7, V.int (-1), V.int 900, V.int (10 ^ Int.toNat 20)]) r0 r1
    have hz : ∃ z : Int, v = .int z := by
      simp only [List.mem_cons, List.not_mem_nil, or_false] at hv
      rcases hv with e | e | e | e | e | e <;> exact ⟨_, e⟩
    obtain ⟨z, rfl⟩ := hz
    exact w_ixL (lof h2) ha (k _ _ ((Go.of hp s1).trans g2))
/-- purse and store may change, all else stays -/
structure G2 (p d : Addr) (H H' : Hp) : Prop where
  keep : ∀ b o, H b = some o → b ≠ p → b ≠ d → H' b = some o
  tu : Tu H H'
  pur : Pur H' p
theorem G2.of {p d : Addr} {H H' : Hp} (g : Go p H H') : G2 p d H H' := ⟨fun b o e n _ => g.keep b o e n, g.tu, g.pur⟩
theorem G2.trans {p d : Addr} {H H1 H2 : Hp} (a : G2 p d H H1) (b : G2 p d H1 H2) : G2 p d H H2 := ⟨fun c o e n m => b.keep c o (a.keep c o e n m) n m, a.tu.trans b.tu, b.pur⟩
def spExtra (K : PySem.W.Frag) : Sp := fun vs H Q _ => ∃ (p r d : Addr) (us : List V) (row : List PM.Cell) (st : List (List Int)), vs = [.ref p, .ref r, .ref d] ∧ Pur H p ∧ H r = some (.lst us) ∧ Cs K H us row ∧ r ≠ p ∧ d ≠ p ∧ StAt K H d st ∧ PM.Fits (look st) row ∧ PM.GoodC row ∧ row.length ≤ 1000 ∧ st.length ≤ 1000 ∧
  ∀ v ps more H', G2 p d H H' → StAt K H' d (st ++ more) → more.length ≤ 1 → PsT K H' v ps → PM.Good ps → PM.Fits (look (st ++ more)) (PM.each ps) → ps.length ≤ 10 → (PM.each ps).length ≤ 7 → Q v H'
theorem mon_int : Mon (fun _ v _ => ∃ z : Int, v = .int z) := fun _ _ _ _ h _ => h
theorem ints_of {acc : List V} {n : Nat} {H : Hp} (h : LcT (fun _ v _ => ∃ z : Int, v = .int z) n acc H) : ∃ ns : List Int, acc = ns.map V.int ∧ ns.length = n := by
  obtain ⟨hl, h⟩ := h
  induction acc generalizing n with
  | nil => exact ⟨[], rfl, hl⟩
  | cons v acc ih =>
    obtain ⟨z, rfl⟩ := h 0 v rfl
    obtain ⟨ns, e, l⟩ := ih (n := n - 1) (by simp at hl; omega) fun j w e => h (j + 1) w (by simpa using e)
    refine ⟨z :: ns, by rw [e]; rfl, ?_⟩
    simp at hl ⊢
    omega
theorem ok_law_extra (M : Md K mg) : Df P w K mg base CX0 3 "_law_extra" ["_law_purse_here", "_law_row", "_law_store"] (spExtra K) := by
  have D__law_take := ok_law_take (P := P) (w := w) (base := base) M
  have D__law_runs := ok_law_runs (P := P) (w := w) (base := base) M
  have D__law_few := ok_law_few (P := P) (w := w) (base := base) M
  obtain ⟨fd, F⟩ := M.d_law_extra
  refine ⟨⟨fd, F.ok sc_law_extra (fun vs H Q E h => ?_) (fun cdv A outer s H vs Q E hr h => ?_), F.bindsN fun _ _ _ _ _ _ us hl => match us, hl with | [_, _, _], _ => rfl⟩, M.g_law_extra, F.kp⟩
  · obtain ⟨p, r, d, us, row, st, rfl, _⟩ := h
    rfl
  · obtain ⟨p, r, d, us, row, st, rfl, hp, hr1, hU, nr, nd, hSt, hF, hC, hl, hsl, k⟩ := h
    have hu := hu_of hr
    have hlen := paired_len hU
    refine ⟨_, PSs.nox (pss_cons (ps_if (PW.pt (pw_and (pt_cmpR (k_neD (K := K) rfl hr.units) (pv 1) (pe_lstN pa_nil) (nomark _)) (pw_and1 (pt_cmpR op_eq (pe_cl D__law_take (hr.mono (by decide)) (by rfl) pass0 (pa_cons (pv 0) (pa_cons pe_int pa_nil))) pe_int (nomark _)))))
 (pss_cons (ps_set (i := 3) sc_law_extra.nd rfl (Or.inl rfl) (pe_cl D__law_take (hr.mono (by decide)) (by rfl) pass0 (pa_cons (pv 0) (pa_cons (pe_callB (k_len (K := K) rfl) (by rfl) M.z_len bt_len (pa_cons (pv 1) pa_nil)) pa_nil))))
 (pss_one (ps_ret (pe_cl D__law_runs (hr.mono (by decide)) (by rfl) pass0 (pa_cons (pe_slice (k_slL (K := K) rfl) (pv 1) (po_some (pv 3)) (po_some (pe_op op_add (pe_op op_add (pv 3) pe_int) (pe_cl D__law_take (hr.mono (by decide)) (by rfl) pass0 (pa_cons (pv 0) (pa_cons pe_int pa_nil)))))) pa_nil)))))
 pss_nil)
 (pss_cons (ps_par3 (i := 4) (j := 5) (l := 6) (by rfl) sc_law_extra.nd rfl rfl rfl (by decide) (by decide) (by decide) rfl rfl rfl (pa_cons (pe_op op_add (pe_callB call_lenDN (by rfl) M.z_len bt_len (pa_cons (pv 2) pa_nil)) pe_int) (pa_cons (pe_cl D__law_take (hr.mono (by decide)) (by rfl) pass0 (pa_cons (pv 0) (pa_cons pe_int pa_nil))) (pa_cons (pe_op op_add pe_int (pe_cl D__law_take (hr.mono (by decide)) (by rfl) pass0 (pa_cons (pv 0) (pa_cons pe_int pa_nil)))) pa_nil))) (by rfl))
 (pss_cons (ps_dput hu (pv 2) (pv 4) (pe_callTy (k_tuple (K := K) rfl) (by rfl) M.z_tuple bt_tuple (pa_cons (pe_lc (own := [("_law_turn", 7)]) (g := (gName 7)) rfl sc_law_extra.nd (pi_range1 (by rfl) M.z_range (pa_cons (pe_op op_add (pe_op op_add (pv 5) (pv 6)) (pe_cl D__law_take (hr.mono (by decide)) (by rfl) pass0 (pa_cons (pv 0) (pa_cons pe_int pa_nil)))) pa_nil)) (blkOk_by (own := [("_law_turn", 7)]) (N := ["_law_purse_here", "_law_row", "_law_store", "_law_at", "_law_piece", "_law_first", "_law_size", "_law_turn"]) (sc := defScope s_law_extra) (by decide +kernel)) (fun _ _ _ _ _ => (pg_name (i := 7) sc_law_extra.nd rfl (Or.inl rfl))) (fun _ _ _ _ _ => pts_nil) (fun _ _ _ _ _ => (pe_cl D__law_few (hr.mono (by decide)) (by rfl) pass0 (pa_cons (pv 0) pa_nil)))) pa_nil)) rfl)
 (pss_one (ps_ret (pe_tupN (pa_cons (pe_tupN (pa_cons (pv 4) (pa_cons (pv 5) (pa_cons (pv 6) pa_nil)))) pa_nil))))))), ?_⟩
    try dsimp only [cxOf, Cx.nox]
    have rest : ∀ H2, Go p H H2 → ∀ Z : TS, Z = (tSeq (tPar3 4 5 6 (tCons (tOp (rI0 fun i j => V.int (i + j)) (tCB cLenD (tCons (tVar 2) tNil)) (tC (V.int 1))) (tCons (tCall spTake [] E0 (tCons (tVar 0) (tCons (tC (V.int 3)) tNil))) (tCons (tOp (rI0 fun i j => V.int (i + j)) (tC (V.int 1)) (tCall spTake [] E0 (tCons (tVar 0) (tCons (tC (V.int 7)) tNil)))) tNil)))) (tSeq (sDPut (tVar 2) (tVar 4) (tCB (cTup K) (tCons (tLc (iRng1 (tCons (tOp (rI0 fun i j => V.int (i + j)) (tOp (rI0 fun i j => V.int (i + j)) (tVar 5) (tVar 6)) (tCall spTake [] E0 (tCons (tVar 0) (tCons (tC (V.int 2)) tNil)))) tNil)) (gName 7) tYes (tCall spFew [] E0 (tCons (tVar 0) tNil)) [7]) tNil))) (tRet (tTupN (tCons (tTupN (tCons (tVar 4) (tCons (tVar 5) (tCons (tVar 6) tNil)))) tNil))))) →
        Z { nx := fun _ H' => Q .non H', rt := Q } [some (.ref p), some (.ref r), some (.ref d), none, none, none, none, none] H2 := by
      intro H2 g2 Z hZ
      subst hZ
      obtain ⟨as, hd0, hst0⟩ := id hSt
      have hd2 := g2.keep _ _ hd0 nd
      have hal := paired_len hst0
      walk_at "go"
      refine ⟨p, 3, rfl, by decide, by decide, g2.pur, fun f H3 f0 f1 g3 => ?_⟩
      walk_at "go"
      refine ⟨p, 7, rfl, by decide, by decide, g3.pur, fun m H4 m0 m1 g4 => ?_⟩
      have G4 := (g2.trans g3).trans g4
      walk_at "go"
      refine w_lc ?_
      walk_at "go"
      refine ⟨p, 2, rfl, by decide, by decide, G4.pur, fun o H5 o0 o1 g5 => ?_⟩
      have G5 := G4.trans g5
      walk_at "go"
      refine lg_R (p := p) (f + (1 + m) + o) (fun _ v _ => ∃ z : Int, v = .int z) mon_int G5.pur (by omega) (by omega) (fun i H6 hi g6 Q' q => ?_) (fun D H6 acc n6 g6 hD hA => ?_)
      · refine ⟨rfl, ?_⟩
        walk_at "go"
        exact ⟨p, rfl, g6.pur, fun z H7 g7 => q _ _ g7 ⟨z, rfl⟩⟩
      · obtain ⟨ns, rfl, hns⟩ := ints_of hA
        have G6 := G5.trans g6
        walk_at "go"
        intro t H7 n7 s7 h7
        have G7 := G6.same s7
        have hd7 := G7.keep _ _ hd0 nd
        walk_at "go"
        refine w_dputI hd7 (sz1 (by rw [kvF_len]; omega)) (fun H8 b8 h8 => ?_)
        have hkl : (((kvF 1 as).length : Int) + 1) = 1 + (as.length : Int) := by rw [kvF_len]; omega
        have hnew : putK (kvF 1 as) (Sum.inl (((kvF 1 as).length : Int) + 1) : Key) (.ref t) = kvF 1 (as ++ [t]) := by
          rw [hkl, kvF_snoc, putK_new]
          rw [valV_kvF, if_pos (by omega), List.getElem?_eq_none (by omega)]
          rfl
        rw [hnew] at h8
        have t8 : Tu H H8 := G7.tu.trans (b8.tuD hd7)
        walk_at "go"
        intro t1 H9 n9 s9 h9
        walk_at "go"
        intro t2 H10 n10 s10 h10
        have S10 : Same H8 H10 := s9.trans s10
        have hst : look (st ++ [ns]) (((kvF 1 as).length : Int) + 1) = ns := by
          unfold look
          have e : ((((kvF 1 as).length : Int) + 1) - 1).toNat = st.length := by rw [kvF_len]; omega
          rw [if_pos (by rw [kvF_len]; omega), e, List.getElem?_append_right (Nat.le_refl _), Nat.sub_self]
          rfl
        refine k _ [(((kvF 1 as).length : Int) + 1, f, 1 + m)] [ns] H10 ⟨fun b o e nb md => S10 _ _ (b8 _ _ (G7.keep b o e nb) md), t8.trans (.of S10), ?_⟩ ?_ (by simp) ⟨t2, _, rfl, tof h10, .cons ⟨t1, rfl, tof (s10 _ _ h9)⟩ .nil⟩ ?_ ?_ (by simp) ?_
        · obtain ⟨a1, a2, e, z1⟩ := G7.pur
          exact ⟨a1, a2, S10 _ _ (b8 _ _ e nd.symm), z1⟩
        · refine ⟨as ++ [t], S10 _ _ h8, paired_append (sts_tu hst0 (t8.trans (.of S10))) (.cons ?_ .nil)⟩
          exact same_tup S10 ((b8.tuD hd7).tup (tof h7))
        · intro q hq
          rw [List.mem_singleton] at hq
          subst hq
          simp only
          omega
        · intro c hc
          rw [PM.each_one] at hc
          unfold PM.each1 at hc
          rw [List.mem_map] at hc
          obtain ⟨j, hj, rfl⟩ := hc
          rw [List.mem_range] at hj
          simp only at hj ⊢
          rw [hst, hns]
          omega
        · rw [PM.each_one, PM.each1_length]
          simp only
          omega
    walk_at "go"
    intro e H1 n1 s1 h1
    have hr1' := s1 _ _ hr1
    have hU1 := cs_tu hU (.of s1)
    refine w_neC0 hr1' hU1 h1 ?_
    have G1 := Go.of hp s1
    walk_at "go"
    by_cases hrow : row = []
    · rw [decide_eq_true hrow]
      refine iteF ?_
      refine iteF ?_
      exact rest H1 G1 _ rfl
    · rw [decide_eq_false hrow]
      have hpos : 0 < row.length := List.length_pos_iff.mpr hrow
      refine iteT ?_
      walk_at "go"
      refine ⟨p, 3, rfl, by decide, by decide, G1.pur, fun x H2 x0 x1 g2 => ?_⟩
      have G2' := G1.trans g2
      walk_at "go"
      refine ite2 (fun _ => ?_) (fun _ => ?_)
      · have hr2 := g2.keep _ _ hr1' nr
        walk_at "go"
        refine ⟨p, _, rfl, by omega, by omega, G2'.pur, fun a H3 a0 a1 g3 => ?_⟩
        obtain ⟨at_, rfl⟩ : ∃ n : Nat, a = n := ⟨a.toNat, by omega⟩
        have G3 := G2'.trans g3
        walk_at "go"
        refine ⟨p, 6, rfl, by decide, by decide, G3.pur, fun y H4 y0 y1 g4 => ?_⟩
        obtain ⟨en, rfl⟩ : ∃ n : Nat, y = n := ⟨y.toNat, by omega⟩
        have G4 := G3.trans g4
        have hr4 := g4.keep _ _ (g3.keep _ _ hr2 nr) nr
        walk_at "go"
        intro l5 H5 n5 s5 h5
        have ee : (at_ : Int) + 1 + (en : Int) = ((at_ + 1 + en : Nat) : Int) := by omega
        rw [ee, cutV_mid _ _ _ (by omega)] at h5
        have em : at_ + 1 + en - at_ = 1 + en := by omega
        rw [em] at h5
        have G5 := G4.same s5
        walk_at "go"
        refine ⟨l5, _, rfl, ⟨_, lof h5, paired_take _ (paired_drop _ (cs_tu hU G5.tu))⟩, by simp; omega, fun v H6 s6 hv => ?_⟩
        have G6 := G5.same s6
        have sub : ∀ c ∈ (row.drop at_).take (1 + en), c ∈ row := fun c hc => List.mem_of_mem_drop (List.mem_of_mem_take hc)
        refine k v _ [] H6 (G2.of G6) (by rw [List.append_nil]; exact hSt.mono (fun o e => G6.keep _ _ e nd) G6.tu) (by simp) hv (PM.good_runs fun c hc => hC c (sub c hc)) ?_ (Nat.le_trans (runs_len _) (by simp; omega)) ?_
        · rw [List.append_nil, PM.each_runs]
          exact fun c hc => hF c (sub c hc)
        · rw [PM.each_runs]
          simp
          omega
      · exact rest H2 G2' _ rfl
theorem valV_merge : ∀ (l acc : List (Key × V)) (k : Key), valV (mergeK acc l) k = match valV l.reverse k with | some v => some v | none => valV acc k
  | [], acc, k => rfl
  | kv :: r, acc, k => by
    have ih := valV_merge r (putK acc kv.1 kv.2) k
    show valV (mergeK (putK acc kv.1 kv.2) r) k = _
    rw [ih, List.reverse_cons]
    have e : valV (r.reverse ++ [kv]) k = match valV r.reverse k with | some v => some v | none => if kv.1 = k then some kv.2 else none := by
      generalize r.reverse = l
      induction l with
      | nil =>
        rw [List.nil_append]
        by_cases h : kv.1 = k
        · rw [valV_pos h, if_pos h]; rfl
        · rw [valV_neg h, if_neg h]; rfl
      | cons x l ih =>
        rw [List.cons_append]
        by_cases h : x.1 = k
        · rw [valV_pos h, valV_pos h]
        · rw [valV_neg h, valV_neg h, ih]
    rw [e]
    cases valV r.reverse k with
    | some v => rfl
    | none =>
      simp only
      rw [valV_put]
      by_cases h : kv.1 = k
      · rw [if_pos h, if_pos h.symm]
      · rw [if_neg h, if_neg (fun z => h z.symm)]
theorem valV_turned (kvs : List (Key × V)) (k : Key) : valV (mergeK [] kvs.reverse) k = valV kvs k := by
  rw [valV_merge, List.reverse_reverse]
  cases valV kvs k <;> rfl
theorem paired_refs {α : Type} {G : Addr → α → Prop} : ∀ {acc : List V} {l : List α}, Paired (fun v x => ∃ t, v = V.ref t ∧ G t x) acc l → ∃ ps : List Addr, acc = ps.map V.ref ∧ Paired G ps l
  | _, _, .nil => ⟨[], rfl, .nil⟩
  | _, _, .cons ⟨t, e, g⟩ r => by
    obtain ⟨ps, e2, g2⟩ := paired_refs r
    exact ⟨t :: ps, by rw [e, e2]; rfl, .cons g g2⟩
theorem kvF_keys : ∀ (n : Int) (as : List Addr) (i : Nat) (kv : Key × V), (kvF n as)[i]? = some kv → ∃ m a, kv = (Sum.inl m, .ref a) ∧ n ≤ m ∧ as[(m - n).toNat]? = some a
  | n, [], i, kv, h => by simp [kvF] at h
  | n, a :: r, 0, kv, h => by
    simp [kvF] at h
    exact ⟨n, a, h.symm, Int.le_refl _, by simp⟩
  | n, a :: r, i + 1, kv, h => by
    simp [kvF] at h
    obtain ⟨m, b, e, h1, h2⟩ := kvF_keys (n + 1) r i kv h
    refine ⟨m, b, e, by omega, ?_⟩
    have z : (m - n).toNat = (m - (n + 1)).toNat + 1 := by omega
    rw [z, List.getElem?_cons_succ]
    exact h2
def spRight (K : PySem.W.Frag) : Sp := fun vs H Q _ => ∃ (v : V) (r d : Addr) (us : List V) (row : List PM.Cell) (st : List (List Int)), vs = [v, .ref r, .ref d] ∧ PsT K H v (PM.runs row) ∧ H r = some (.lst us) ∧ Cs K H us row ∧ StAt K H d st ∧ PM.Fits (look st) row ∧ PM.GoodC row ∧ row.length ≤ 1000 ∧ st.length ≤ 1000 ∧ ∀ H', Same H H' → Q (.bl true) H'
theorem mon_pair (l : List (Key × V)) : Mon (fun i v H => ∃ x, l[i]? = some x ∧ ∃ t, v = V.ref t ∧ SqT K H t [kV x.1, x.2]) := fun _ _ _ _ ⟨x, e, t, e2, h⟩ z => ⟨x, e, t, e2, z.tup h⟩
theorem ok_law_right (M : Md K mg) : Df P w K mg base CX0 6 "_law_right" ["_law_lot", "_law_row", "_law_store"] (spRight K) := by
  have D__law_runs := ok_law_runs (P := P) (w := w) (base := base) M
  have D__law_is := ok_law_is (P := P) (w := w) (base := base) M
  have D_length := ok_length (P := P) (w := w) (base := base) M
  have D_is_parts := ok_is_parts (P := P) (w := w) (base := base) M
  have D_cells := ok_cells (P := P) (w := w) (base := base) M
  obtain ⟨fd, F⟩ := M.d_law_right
  refine ⟨⟨fd, F.ok sc_law_right (fun vs H Q E h => ?_) (fun cdv A outer s H vs Q E hr h => ?_), F.bindsN fun _ _ _ _ _ _ us hl => match us, hl with | [_, _, _], _ => rfl⟩, M.g_law_right, F.kp⟩
  · obtain ⟨v, r, d, us, row, st, rfl, _⟩ := h
    rfl
  · obtain ⟨v, r, d, us, row, st, rfl, hT, hr1, hU, hSt, hF, hC, hl, hsl, k⟩ := h
    have hu := hu_of hr
    have hlen := paired_len hU
    obtain ⟨as, hd, hst⟩ := hSt
    have hal := paired_len hst
    have hG := PM.good_runs hC
    have hrl := runs_len row
    refine ⟨_, PSs.nox (pss_cons (ps_set (i := 3) sc_law_right.nd rfl (Or.inl rfl) (pe_callTy (k_tuple (K := K) rfl) (by rfl) M.z_tuple bt_tuple (pa_cons (pe_lc (own := [("_law_piece", 4), ("_law_at", 5)]) (g := (gTup K 2 (gCons (gName 4) (gCons (gName 5) gNil)))) rfl sc_law_right.nd (k_ilist (K := K) rfl (pv 1)) (blkOk_by (own := [("_law_piece", 4), ("_law_at", 5)]) (N := ["_law_lot", "_law_row", "_law_store", "_law_numbers", "_law_piece", "_law_at", "_law_turned"]) (sc := defScope s_law_right) (by decide +kernel)) (fun _ _ _ _ _ => (k_gtup (K := K) (n := 2) rfl rfl (pgs_cons (pg_name (i := 4) sc_law_right.nd rfl (Or.inl rfl)) (pgs_cons (pg_name (i := 5) sc_law_right.nd rfl (Or.inl rfl)) pgs_nil)))) (fun _ _ _ _ _ => pts_nil) (fun _ _ _ _ _ => (pe_ix (k_ixT (K := K) rfl) (pe_dget hu (pv 2) (pv 4) (fun _ _ => rfl)) (pv 5) (fun _ _ => rfl)))) pa_nil)))
 (pss_cons (ps_if (PW.pt (pw_or (pt_not (pt_val (pe_cl D__law_is (hr.mono (by decide)) (by rfl) pass0 (pa_cons (pv 0) (pa_cons (pe_cl D__law_runs (hr.mono (by decide)) (by rfl) pass0 (pa_cons (pv 1) pa_nil)) pa_nil))))) (pw_or (pt_cmpR op_ne (pe_cl D_length (hr.mono (by decide)) (by rfl) pass0 (pa_cons (pv 0) pa_nil)) (pe_callB (k_len (K := K) rfl) (by rfl) M.z_len bt_len (pa_cons (pv 1) pa_nil)) (nomark _)) (pw_or1 (pt_cmpR op_isnBN (pe_cl D_is_parts (hr.mono (by decide)) (by rfl) pass0 (pa_cons (pv 0) pa_nil)) pe_bl (nomark _))))))
 (pss_one (ps_ret pe_bl))
 pss_nil)
 (pss_cons (ps_set (i := 6) sc_law_right.nd rfl (Or.inl rfl) (pe_callTy (k_dictP (K := K) rfl rfl) (by rfl) M.z_dict bt_dict (pa_cons (pe_lc (own := [("_law_piece", 4)]) (g := (gName 4)) rfl sc_law_right.nd (k_ilist (K := K) rfl (k_revL (K := K) rfl (pe_callTy (call_listDN rfl) (by rfl) M.z_list bt_list (pa_cons (pv 2) pa_nil)))) (blkOk_by (own := [("_law_piece", 4)]) (N := ["_law_lot", "_law_row", "_law_store", "_law_numbers", "_law_piece", "_law_at", "_law_turned"]) (sc := defScope s_law_right) (by decide +kernel)) (fun _ _ _ _ _ => (pg_name (i := 4) sc_law_right.nd rfl (Or.inl rfl))) (fun _ _ _ _ _ => pts_nil) (fun _ _ _ _ _ => (pe_tupN (pa_cons (pv 4) (pa_cons (pe_dget hu (pv 2) (pv 4) (fun _ _ => rfl)) pa_nil))))) pa_nil)))
 (pss_one (ps_ret (pe_and (pe_cmpR (k_eqD (K := K) rfl hr.units) (pe_cl D_cells (hr.mono (by decide)) (by rfl) pass0 (pa_cons (pv 0) (pa_cons (pv 2) pa_nil))) (pv 3) (nomark _)) (pe_one (pe_cmpR (k_eqD (K := K) rfl hr.units) (pe_cl D_cells (hr.mono (by decide)) (by rfl) pass0 (pa_cons (pv 0) (pa_cons (pv 6) pa_nil))) (pv 3) (nomark _))))))))), ?_⟩
    try dsimp only [cxOf, Cx.nox]
    walk_at "go"
    refine w_lcL (K := K) (a := r) (fun i v _ => ∃ x, (row.map (PM.val (look st)))[i]? = some x ∧ v = .int x) (mon_fix _ V.int) (lof hr1) (by omega) (fun i x H1 hi s1 Q' q => ?_) (fun D H1 acc n1 s1 hD hA => ?_) _ (fun R r => ⟨_, rfl, r⟩)
    · obtain ⟨c, hc, hx⟩ := paired_get hU hi
      obtain ⟨b, rfl, hb⟩ := hx.tu (.of s1)
      obtain ⟨f1, f2⟩ := hF c (List.mem_of_getElem? hc)
      obtain ⟨t, ht, hts⟩ := look_has hst f1 f2
      have hts1 := same_tup s1 hts
      walk_at "go"
      refine ⟨rfl, ?_⟩
      walk_at "go"
      refine ⟨d, .ref t, rfl, by have z := DGet.k (k := Sum.inl c.1) (s1 _ _ hd); rw [ht] at z; exact z, ?_⟩
      walk_at "go"
      have hat : atI ((look st c.1).map V.int) c.2 = some (.int (PM.val (look st) c)) := by
        have e : c.2 = ((c.2.toNat : Nat) : Int) := by omega
        rw [e]
        refine atI_nat ?_
        unfold PM.val
        rw [List.getElem?_map, List.getElem?_eq_getElem (by omega), List.getD_eq_getElem?_getD, List.getElem?_eq_getElem (by omega)]
        rfl
      refine w_ixT hts1 hat ?_
      exact q _ _ (Same.refl _) ⟨_, by rw [List.getElem?_map, hc]; rfl, rfl⟩
    · have e : acc = (row.map (PM.val (look st))).map V.int := LcT.mapL (by rw [List.length_map, ← hlen]; exact hA)
      subst e
      walk_at "go"
      intro t1 H2 n2 s2 h2
      have S2 := s1.trans s2
      walk_at "go"
      refine ⟨r, row, rfl, ⟨_, lof (S2 _ _ hr1), cs_tu hU (.of S2)⟩, by omega, fun d1 H3 s3 hd1 => ?_⟩
      have S3 := S2.trans s3
      walk_at "go"
      refine ⟨v, d1, _, _, rfl, hT.same S3, hd1, by omega, fun H4 s4 => ?_⟩
      have S4 := S3.trans s4
      rw [decide_eq_true rfl]
      walk_at "go"
      refine ⟨v, _, rfl, hT.same S4, hG, by omega, fun H5 s5 => ?_⟩
      have S5 := S4.trans s5
      have hr5 := S5 _ _ hr1
      walk_at "go"
      refine iteNS (by rw [← PM.each_length hG.pos, PM.each_runs]; omega) ?_
      walk_at "go"
      refine ⟨v, _, rfl, hT.same S5, hG, by omega, fun H6 s6 => ?_⟩
      have S6 := S5.trans s6
      have hd6 := S6 _ _ hd
      walk_at "go"
      refine iteNS rfl ?_
      walk_at "go"
      refine w_lc ?_
      walk_at "go"
      intro l7 H7 n7 s7 h7
      refine ⟨l7, _, rfl, lof h7, fun l8 n8 => ?_⟩
      have S7 := S6.trans s7
      have s8 := new_same (o := HO.lst (List.map (fun kv => kV kv.fst) (kvF 1 as)).reverse) n8
      have h8 : upd H7 l8 (HO.lst (List.map (fun kv => kV kv.fst) (kvF 1 as)).reverse) l8 = _ := upd_same
      generalize upd H7 l8 (HO.lst (List.map (fun kv => kV kv.fst) (kvF 1 as)).reverse) = H8 at s8 h8 ⊢
      have S8 := S7.trans s8
      have hd8 := S8 _ _ hd
      rw [← List.map_reverse] at h8
      refine lc_L (K := K) (a := l8) (fun i v H => ∃ x, (kvF 1 as).reverse[i]? = some x ∧ ∃ t, v = V.ref t ∧ SqT K H t [kV x.1, x.2]) (mon_pair _) (lof h8) (by simp [kvF_len]; omega) (fun i x H9 hi s9 Q' q => ?_) (fun D9 H9 acc n9 s9 hD9 hA9 => ?_)
      · rw [List.getElem?_map] at hi
        cases e : (kvF 1 as).reverse[i]? with
        | none => rw [e] at hi; cases hi
        | some kv =>
          rw [e] at hi
          have hx : x = kV kv.1 := (Option.some.inj hi).symm
          subst hx
          have hm : kv ∈ kvF 1 as := List.mem_reverse.mp (List.mem_of_getElem? e)
          obtain ⟨j, hj⟩ := List.getElem?_of_mem hm
          obtain ⟨m, a, rfl, h1, h2⟩ := kvF_keys 1 as j kv hj
          refine ⟨rfl, ?_⟩
          walk_at "go"
          refine ⟨d, .ref a, rfl, ?_, ?_⟩
          · have z := DGet.k (k := Sum.inl m) (s9 _ _ hd8)
            rw [valV_kvF, if_pos h1, h2] at z
            exact z
          · walk_at "go"
            intro t H10 n10 s10 h10
            exact q _ _ s10 ⟨_, e, t, rfl, tof h10⟩
      · have hA10 : LcT (fun i v H => ∃ x, (kvF 1 as).reverse[i]? = some x ∧ ∃ t, v = V.ref t ∧ SqT K H t [kV x.1, x.2]) (kvF 1 as).reverse.length acc H9 := by
          rw [List.length_map] at hA9
          exact hA9
        have hPr := lct_paired (G := fun v (x : Key × V) H => ∃ t, v = V.ref t ∧ SqT K H t [kV x.1, x.2]) hA10
        obtain ⟨pts, rfl, hPt⟩ := paired_refs hPr
        walk_at "go"
        refine ⟨D9, pts, (kvF 1 as).reverse, rfl, lof hD9, hPt, ?_⟩
        intro d2 H11 n11 s11 h11
        have S11 := (S8.trans s9).trans s11
        have num : PM.vals (look st) (PM.runs row) = row.map (PM.val (look st)) := by
          rw [PM.vals_each hG (by rw [PM.each_runs]; exact hF), PM.each_runs]
        have fit : ∀ q ∈ PM.runs row, q.2.1 + q.2.2 ≤ ((look st q.1).length : Int) := PM.each_fits hG (by rw [PM.each_runs]; exact hF)
        have hz : PM.sizeOf (PM.runs row) ≤ 50000 := by rw [← PM.each_length hG.pos, PM.each_runs]; omega
        walk_at "go"
        refine ⟨v, d, _, _, look st, rfl, hT.same S11, hG, by omega, S11 _ _ hd, fun q hq => ?_, hz, fun c1 H12 s12 hc1 => ?_⟩
        · have g := hG q hq
          have f := fit q hq
          exact ⟨(look_has hst g.2.1 (by omega)).tu (.of S11), f⟩
        · have S12 := S11.trans s12
          have nums : ∀ Hz, Same H2 Hz → IntsT K Hz (.ref t1) (row.map (PM.val (look st))) := fun Hz sz => ⟨t1, rfl, same_tup sz (tof h2)⟩
          have T11 : Same H2 H11 := (((((((s3.trans s4).trans s5).trans s6).trans s7).trans s8).trans s9).trans s11)
          walk_at "go"
          refine w_eqInts hc1 (nums _ (T11.trans s12)) ?_
          rw [num, decide_eq_true rfl]
          walk_at "go"
          refine ⟨v, d2, _, _, look st, rfl, hT.same S12, hG, by omega, s12 _ _ h11, fun q hq => ?_, hz, fun c2 H13 s13 hc2 => ?_⟩
          · have g := hG q hq
            have f := fit q hq
            obtain ⟨a, ha, hs⟩ := look_has hst g.2.1 (by omega : q.2.1 < ((look st q.1).length : Int))
            exact ⟨⟨a, by rw [valV_turned]; exact ha, same_tup S12 hs⟩, f⟩
          · walk_at "go"
            refine w_eqInts hc2 (nums _ ((T11.trans s12).trans s13)) ?_
            rw [num, decide_eq_true rfl]
            exact k _ (S12.trans s13)
end
end Fz
/-! ### law k10: the rows, the law -/
namespace Fz
open PySem L2
section
variable {P : Program} {w : World} {K : PySem.W.Frag} {mg : Str → Option Value} {base : Heap}
theorem dx_put (M : Md K mg) : ∃ fd, Dx P w K mg base CX0 5 "put" ["parts", "more", "place"] (spPut K) fd ∧ (∃ g, KBn K fd ["parts", "more", "place"] 2 ["place"] g (fun vs zs => vs ++ zs)) ∧ (∃ ds, Vals [.non] ds ∧ Binds K fd ["parts", "more", "place"] ds) := by
  obtain ⟨fd, F⟩ := M.d_put
  refine ⟨fd, ⟨ok_put M F, M.g_put, F.kp⟩, ?_, ?_⟩
  · exact kbn_of F 2 ["place"] (fun vs zs => vs ++ zs) (fun r1 r2 => r1.append r2) fun kV doc pm an cdv ct us ws l1 l2 => match us, ws, l1, l2 with | [_, _], [_], _, _ => rfl
  · exact FunD.binds0 (ps := ["parts", "more", "place"]) F 2 (fun z => nomatch z) rfl fun D doc pm an cdv ct us ks l1 l2 => match us, ks, l1, l2 with | [_, _], [_], _, _ => ⟨_, _, _, _, _, _, rfl, rfl, rfl⟩
/-- one of what was met: parts, and the row of cells that they had -/
def MetOk (K : PySem.W.Frag) (p d m : Addr) (st : List (List Int)) (H : Hp) (x : V) : Prop := ∃ (t r : Addr) (lv : V) (us : List V) (row : List PM.Cell), x = .ref t ∧ SqT K H t [lv, .ref r] ∧ PsT K H lv (PM.runs row) ∧ H r = some (.lst us) ∧ r ≠ p ∧ r ≠ d ∧ r ≠ m ∧ Cs K H us row ∧ PM.Fits (look st) row ∧ PM.GoodC row ∧ row.length ≤ 1000
theorem MetOk.mono {p d m : Addr} {st more : List (List Int)} {H H' : Hp} {x : V} (h : MetOk K p d m st H x) (k : ∀ b o, H b = some o → b ≠ p → b ≠ d → b ≠ m → H' b = some o) (t : Tu H H') : MetOk K p d m (st ++ more) H' x := by
  obtain ⟨t1, r, lv, us, row, e, h1, h2, h3, n1, n2, n3, h4, h5, h6, h7⟩ := h
  exact ⟨t1, r, lv, us, row, e, t.tup h1, h2.tu t, k _ _ h3 n1 n2 n3, n1, n2, n3, cs_tu h4 t, fits_more h5, h6, h7⟩
theorem MetOk.mono0 {p d m : Addr} {st : List (List Int)} {H H' : Hp} {x : V} (h : MetOk K p d m st H x) (k : ∀ b o, H b = some o → b ≠ p → b ≠ d → b ≠ m → H' b = some o) (t : Tu H H') : MetOk K p d m st H' x := by
  have := h.mono (more := []) k t
  rw [List.append_nil] at this
  exact this
/-- what stands between two turns -/
structure RowSt (K : PySem.W.Frag) (p d m : Addr) (H : Hp) (lv : V) (r : Addr) (n : Nat) (H1 : Hp) (st : List (List Int)) (row : List PM.Cell) (us ms : List V) : Prop where
  lot : PsT K H1 lv (PM.runs row)
  rw_ : H1 r = some (.lst us)
  cs : Cs K H1 us row
  sto : StAt K H1 d st
  fit : PM.Fits (look st) row
  good : PM.GoodC row
  len : row.length ≤ 7 * n
  slen : st.length ≤ n
  met : H1 m = some (.lst ms)
  mets : ∀ x ∈ ms, MetOk K p d m st H1 x
  mlen : ms.length ≤ n
  pur : Pur H1 p
  rp : r ≠ p
  rd : r ≠ d
  rm : r ≠ m
  keep : ∀ b o, H b = some o → b ≠ p → H1 b = some o
def spRowRight : Sp := fun vs H Q _ => ∃ p : Addr, vs = [.ref p] ∧ Pur H p ∧ ∀ H', But p H H' → Q (.bl true) H'
theorem goodC_sub {a b : List PM.Cell} (h : PM.GoodC b) (s : ∀ c ∈ a, c ∈ b) : PM.GoodC a := fun c hc => h c (s c hc)
theorem ok_law_row_right (M : Md K mg) : Df P w K mg base CX0 7 "_law_row_right" ["_law_purse_here"] spRowRight := by
  have D__law_take := ok_law_take (P := P) (w := w) (base := base) M
  have D__law_each := ok_law_each (P := P) (w := w) (base := base) M
  have D__law_extra := ok_law_extra (P := P) (w := w) (base := base) M
  have D__law_right := ok_law_right (P := P) (w := w) (base := base) M
  have D_cut := ok_cut (P := P) (w := w) (base := base) M
  obtain ⟨fdp, D_put, B_put_2_place, B_put_2⟩ := dx_put (P := P) (w := w) (base := base) M
  obtain ⟨fd, F⟩ := M.d_law_row_right
  refine ⟨⟨fd, F.ok sc_law_row_right (fun vs H Q E h => ?_) (fun cdv A outer s H vs Q E hr h => ?_), F.bindsN fun _ _ _ _ _ _ us hl => match us, hl with | [_], _ => rfl⟩, M.g_law_row_right, F.kp⟩
  · obtain ⟨p, rfl, _⟩ := h
    rfl
  · obtain ⟨p, rfl, hp, k⟩ := h
    refine ⟨_, PSs.nox (pss_cons (ps_asg (pe_tupN (pa_cons (pe_tupN pa_nil) (pa_cons (pe_lstN pa_nil) (pa_cons pe_dnewN (pa_cons (pe_lstN pa_nil) pa_nil))))) (k_gtup (K := K) (n := 4) rfl rfl (pgs_cons (pg_name (i := 1) sc_law_row_right.nd rfl (Or.inl rfl)) (pgs_cons (pg_name (i := 2) sc_law_row_right.nd rfl (Or.inl rfl)) (pgs_cons (pg_name (i := 3) sc_law_row_right.nd rfl (Or.inr rfl)) (pgs_cons (pg_name (i := 4) sc_law_row_right.nd rfl (Or.inl rfl)) pgs_nil))))))
 (pss_cons (ps_for PassesOwn.never rfl (pi_range1 (by rfl) M.z_range (pa_cons (pe_op op_add pe_int (pe_cl D__law_take (hr.mono (by decide)) (by rfl) pass0 (pa_cons (pv 0) (pa_cons pe_int pa_nil)))) pa_nil)) (pg_name (i := 5) sc_law_row_right.nd rfl (Or.inl rfl))
 (pss_cons (ps_par (i := 6) (j := 7) (by rfl) sc_law_row_right.nd rfl rfl (by decide) rfl rfl (pa_cons (pe_cl D__law_take (hr.mono (by decide)) (by rfl) pass0 (pa_cons (pv 0) (pa_cons pe_int pa_nil))) (pa_cons (pe_cl D__law_take (hr.mono (by decide)) (by rfl) pass0 (pa_cons (pv 0) (pa_cons (pe_op op_add (pe_callB (k_len (K := K) rfl) (by rfl) M.z_len bt_len (pa_cons (pv 2) pa_nil)) pe_int) pa_nil))) pa_nil)) (by rfl))
 (Evl.pss_cut (ps_if (pt_cmpR op_eq (pv 6) pe_int (nomark _))
 (pss_one (ps_par (i := 1) (j := 2) (by rfl) sc_law_row_right.nd rfl rfl (by decide) rfl rfl (pa_cons (pe_cl D_cut (hr.mono (by decide)) (by rfl) pass0 (pa_cons (pv 1) (pa_cons (pv 7) pa_nil))) (pa_cons (pe_slice (k_slL (K := K) rfl) (pv 2) po_none (po_some (pv 7))) pa_nil)) (by rfl)))
 (pss_cons (ps_set (i := 8) sc_law_row_right.nd rfl (Or.inl rfl) (pe_cl D__law_extra (hr.mono (by decide)) (by rfl) pass0 (pa_cons (pv 0) (pa_cons (pv 2) (pa_cons (pv 3) pa_nil)))))
 (pss_cons (ps_set (i := 9) sc_law_row_right.nd rfl (Or.inl rfl) (pe_cl D__law_each (hr.mono (by decide)) (by rfl) pass0 (pa_cons (pv 8) pa_nil)))
 (pss_one (ps_if (pt_cmpR op_eq (pv 6) pe_int (nomark _))
 (pss_one (ps_par (i := 1) (j := 2) (by rfl) sc_law_row_right.nd rfl rfl (by decide) rfl rfl (pa_cons (pe_cld D_put B_put_2 (hr.mono (by decide)) (by rfl) pass0 (pa_cons (pv 1) (pa_cons (pv 8) pa_nil))) (pa_cons (pe_op op_catN (pv 2) (pv 9)) pa_nil)) (by rfl)))
 (pss_one (ps_par (i := 1) (j := 2) (by rfl) sc_law_row_right.nd rfl rfl (by decide) rfl rfl (pa_cons (pe_ck D_put B_put_2_place (hr.mono (by decide)) (by rfl) pass0 (pa_cons (pv 1) (pa_cons (pv 8) pa_nil)) (pk_cons (pv 7) pk_nil)) (pa_cons (pe_op op_catN (pe_op op_catN (pe_slice (k_slL (K := K) rfl) (pv 2) po_none (po_some (pv 7))) (pv 9)) (pe_slice (k_slL (K := K) rfl) (pv 2) (po_some (pe_op op_add (pv 7) (pe_callB (k_len (K := K) rfl) (by rfl) M.z_len bt_len (pa_cons (pv 9) pa_nil)))) po_none)) pa_nil)) (by rfl))))))))
 (pss_cons (ps_expr (k_bm (K := K) rfl PySem.F.plainAttrs_list PySem.F.slot_list_append PySem.F.type_list_append mt_appN (pv 4) (pa_cons (pe_tupN (pa_cons (pv 1) (pa_cons (pv 2) pa_nil))) pa_nil)))
 (pss_one (ps_if (pt_not (pt_val (pe_cl D__law_right (hr.mono (by decide)) (by rfl) pass0 (pa_cons (pv 1) (pa_cons (pv 2) (pa_cons (pv 3) pa_nil))))))
 (pss_one (ps_ret pe_bl))
 pss_nil))))))
 (pss_one (ps_ret (pe_callB (k_all (K := K) rfl rfl) (by rfl) M.z_all bt_all (pa_cons (pe_lc (own := [("_law_one", 10), ("_law_cells_then", 11)]) (g := (gTup K 2 (gCons (gName 10) (gCons (gName 11) gNil)))) rfl sc_law_row_right.nd (k_ilist (K := K) rfl (pv 4)) (blkOk_by (own := [("_law_one", 10), ("_law_cells_then", 11)]) (N := ["_law_purse_here", "_law_lot", "_law_row", "_law_store", "_law_met", "_law_turn", "_law_way", "_law_at", "_law_extra_here", "_law_new", "_law_one", "_law_cells_then"]) (sc := defScope s_law_row_right) (by decide +kernel)) (fun _ _ _ _ _ => (k_gtup (K := K) (n := 2) rfl rfl (pgs_cons (pg_name (i := 10) sc_law_row_right.nd rfl (Or.inl rfl)) (pgs_cons (pg_name (i := 11) sc_law_row_right.nd rfl (Or.inl rfl)) pgs_nil)))) (fun _ _ _ _ _ => pts_nil) (fun _ _ _ _ _ => (pe_cl D__law_right (hr.mono (by decide)) (by rfl) pass0 (pa_cons (pv 10) (pa_cons (pv 11) (pa_cons (pv 3) pa_nil)))))) pa_nil)))))), ?_⟩
    try dsimp only [cxOf, Cx.nox]
    walk_at "go"
    intro t0 H1 n1 s1 h1
    walk_at "go"
    intro r0 H2 n2 s2 h2
    walk_at "go"
    intro d H3 n3 s3 h3
    walk_at "go"
    intro m H4 n4 s4 h4
    walk_at "go"
    intro t1 H5 n5 s5 h5
    walk_at "go"
    refine w_for ?_
    walk_at "go"
    have S5 : Same H H5 := (((s1.trans s2).trans s3).trans s4).trans s5
    refine ⟨p, 13, rfl, by decide, by decide, hp.same S5, fun z H6 z0 z1 g6 => ?_⟩
    have np1 := (hp.same s1).ne n2
    have np2 := (hp.same (s1.trans s2)).ne n3
    have np3 := (hp.same ((s1.trans s2).trans s3)).ne n4
    have rd0 : r0 ≠ d := ne_of_none h2 n3
    have rm0 : r0 ≠ m := ne_of_none (s3 _ _ h2) n4
    have dm0 : d ≠ m := ne_of_none h3 n4
    have h1' := g6.tu.tup (K := K) (same_tup ((((s2.trans s3).trans s4).trans s5)) (tof h1))
    have h2' := g6.keep _ _ (s5 _ _ (s4 _ _ (s3 _ _ h2))) np1
    have h3' := g6.keep _ _ (s5 _ _ (s4 _ _ h3)) np2
    have h4' := g6.keep _ _ (s5 _ _ h4) np3
    walk_at "go"
    refine ⟨6 + z, rfl, by omega, by omega, ?_⟩
    refine for_range (lo := 0) (n := (6 + z).toNat) (fun i σ Hi => ∃ lv r st row us ms v5 v6 v7 v8 v9 v10 v11, σ = [some (.ref p), some lv, some (.ref r), some (.ref d), some (.ref m), v5, v6, v7, v8, v9, v10, v11] ∧ RowSt K p d m H lv r i Hi st row us ms)
      ⟨.ref t0, r0, [], [], [], [], _, _, _, _, _, _, _, rfl, ⟨⟨t0, [], rfl, h1', .nil⟩, h2', .nil, ⟨[], h3', .nil⟩, fun c hc => by (cases hc), fun c hc => by (cases hc), Nat.le_refl _, Nat.le_refl _, h4', fun x hx => by (cases hx), Nat.le_refl _, g6.pur, np1, rd0, rm0, fun b o e nb => g6.keep _ _ (S5 _ _ e) nb⟩⟩ ?_ ?_
    · rintro i σ Hi hi ⟨lv, r, st, row, us, ms, v5, v6, v7, v8, v9, v10, v11, rfl, R⟩
      have hi2 : i ≤ 20 := by omega
      obtain ⟨hT, hr1, hU, hSt, hF, hC, hl, hsl, hm, hms, hml, hpu, rp, rd, rm, kp⟩ := id R
      have hlen := paired_len hU
      walk_at "go"
      refine ⟨p, 5, rfl, by decide, by decide, hpu, fun way Ha a0 a1 ga => ?_⟩
      have hra := ga.keep _ _ hr1 rp
      walk_at "go"
      refine ⟨p, _, rfl, by omega, by omega, ga.pur, fun at0 Hb b0 b1 gb => ?_⟩
      obtain ⟨at_, rfl⟩ : ∃ n : Nat, at0 = n := ⟨at0.toNat, by omega⟩
      have gab := ga.trans gb
      have hrb := gab.keep _ _ hr1 rp
      have hUb := cs_tu hU gab.tu
      have hTb := hT.tu gab.tu
      have hStb := hSt.mono (fun o e => gab.keep _ _ e np2) gab.tu
      have hmb := gab.keep _ _ hm np3
      have hG := PM.good_runs hC
      have hrl := runs_len row
      have hat : at_ ≤ row.length := by omega
      have zrow : PM.sizeOf (PM.runs row) = (row.length : Int) := by rw [← PM.each_length hG.pos, PM.each_runs]
      walk_at "go"
      refine Evl.q_cut (M := fun σ Hc => ∃ lv r st' row us v6 v7 v8 v9 v10 v11, σ = [some (.ref p), some lv, some (.ref r), some (.ref d), some (.ref m), some (.int (0 + (i : Int))), v6, v7, v8, v9, v10, v11] ∧ RowSt K p d m H lv r (i + 1) Hc st' row us ms) ?_ ?_
      · walk_at "go"
        refine ite2 (fun e => ?_) (fun e => ?_)
        · walk_at "go"
          refine ⟨lv, (at_ : Int), _, rfl, hTb, hG, by omega, by omega, by omega, fun c Hc sc hc => ?_⟩
          have gc := gab.same sc
          have hrc := sc _ _ hrb
          rw [PM.cut_runs hG.pos, PM.each_runs] at hc
          walk_at "go"
          intro l Hd nd sd hd
          rw [cutV_to] at hd
          have gd := gc.same sd
          walk_at "go"
          have nlp : l ≠ p := gc.pur.ne nd
          have nld : l ≠ d := by
            obtain ⟨as, e, _⟩ := hStb
            exact (ne_of_none (sc _ _ e) nd).symm
          have nlm : l ≠ m := (ne_of_none (sc _ _ hmb) nd).symm
          refine ⟨c, l, st, row.take at_, us.take at_, _, _, _, _, _, _, rfl, ⟨hc.same sd, hd, paired_take _ (cs_tu hU gd.tu), hSt.mono (fun o e => gd.keep _ _ e np2) gd.tu, fun x hx => hF x (List.mem_of_mem_take hx), goodC_sub hC fun x hx => List.mem_of_mem_take hx, by simp; omega, by omega, gd.keep _ _ hm np3, fun x hx => (hms x hx).mono0 (fun b o e nb _ _ => gd.keep b o e nb) gd.tu, by omega, gd.pur, nlp, nld, nlm, fun b o e nb => gd.keep _ _ (kp b o e nb) nb⟩⟩
        · walk_at "go"
          refine ⟨p, r, d, us, row, st, rfl, gab.pur, hrb, hUb, rp, np2, hStb, hF, hC, by omega, by omega, fun x xs more Hc gc hStc hmore hX hXG hXF hXl hXe => ?_⟩
          have hrc := gc.keep _ _ hrb rp rd
          have hUc := cs_tu hUb gc.tu
          have hTc := hTb.tu gc.tu
          have hmc := gc.keep _ _ hmb np3 (Ne.symm dm0)
          walk_at "go"
          refine ⟨x, xs, rfl, hX, hXG.pos, by omega, fun l2 u2 Hd nd sd hd cd => ?_⟩
          have hl2 := paired_len cd
          have kd : ∀ b o, Hi b = some o → b ≠ p → b ≠ d → Hd b = some o := fun b o e nb nd => sd _ _ (gc.keep _ _ (gab.keep b o e nb) nb nd)
          have td : Tu Hi Hd := (gab.tu.trans gc.tu).trans (.of sd)
          have hrd := sd _ _ hrc
          have hUd := cs_tu hUc (.of sd)
          have hpd := gc.pur.same sd
          have hFm : PM.Fits (look (st ++ more)) row := fits_more hF
          have hS0 : ∀ b o, H b = some o → b ≠ p → Hd b = some o := fun b o e nb => kd b o (kp b o e nb) nb (ne_of_none (((s1.trans s2)) _ _ e) n3)
          have lists : ∀ (He : Hp) (c : V) (l : Addr) (vs : List V) (row' : List PM.Cell), Same Hd He → (∀ o, Hd l ≠ some o) → PsT K He c (PM.runs row') → He l = some (.lst vs) → Cs K He vs row' → PM.Fits (look (st ++ more)) row' → PM.GoodC row' → row'.length ≤ 7 * (i + 1) →
              RowSt K p d m H c l (i + 1) He (st ++ more) row' vs ms := fun He c l vs row' se nl hc hl hv hf hg hz =>
            ⟨hc, hl, hv, hStc.same (sd.trans se), hf, hg, hz, by simp; omega, se _ _ (sd _ _ hmc), fun y hy => (hms y hy).mono (fun b o e nb nd _ => se _ _ (kd b o e nb nd)) (td.trans (.of se)), by omega, hpd.same se,
              fun z => by subst z; obtain ⟨_, _, e, _⟩ := hpd; exact nl _ e, fun z => by subst z; obtain ⟨_, e, _⟩ := hStc.same sd; exact nl _ e, fun z => by subst z; exact nl _ (sd _ _ hmc), fun b o e nb => se _ _ (hS0 b o e nb)⟩
          have gX := PM.goodC_each hXG
          have hput : ∀ n : Nat, n ≤ row.length → PM.put (PM.runs row) xs (n : Int) = PM.runs (PM.splice row (PM.each xs) n) := fun n hn => by rw [PM.put_splice hG.pos hXG.pos, PM.each_runs]
          have gsp : ∀ n : Nat, PM.GoodC (PM.splice row (PM.each xs) n) := fun n => PM.goodC_append (PM.goodC_append (goodC_sub hC fun x hx => List.mem_of_mem_take hx) gX) (goodC_sub hC fun x hx => List.mem_of_mem_drop hx)
          have fsp : ∀ n : Nat, PM.Fits (look (st ++ more)) (PM.splice row (PM.each xs) n) := fun n c hc => by
            unfold PM.splice at hc
            rw [List.mem_append, List.mem_append] at hc
            rcases hc with (hc | hc) | hc
            · exact hFm c (List.mem_of_mem_take hc)
            · exact hXF c hc
            · exact hFm c (List.mem_of_mem_drop hc)
          walk_at "go"
          refine ite2 (fun e1 => ?_) (fun e1 => ?_)
          · walk_at "go"
            refine ⟨lv, x, _, _, _, xs, rfl, .inl ⟨rfl, rfl⟩, hTc.same sd, hX.same sd, hG, hXG, by omega, by omega, PM.sizeOf_nonneg hG.pos, Int.le_refl _, fun c He se hc => ?_⟩
            rw [zrow, hput _ (Nat.le_refl _), PM.splice_end] at hc
            walk_at "go"
            refine w_cat (se _ _ hrd) (se _ _ hd) (sz (by omega)) ?_
            intro l Hf nf sf hf
            walk_at "go"
            have S := se.trans sf
            have esp : row ++ PM.each xs = PM.splice row (PM.each xs) row.length := PM.splice_end.symm
            refine ⟨c, l, st ++ more, row ++ PM.each xs, us ++ u2, _, _, _, _, _, _, rfl, lists Hf c l _ _ S (fun o e => by rw [se _ _ e] at nf; cases nf) (hc.same sf) hf (paired_append (cs_tu hUd (.of S)) (cs_tu cd (.of S))) (by rw [esp]; exact fsp _) (by rw [esp]; exact gsp _) (by simp; omega)⟩
          · walk_at "go"
            refine ⟨lv, x, _, (at_ : Int), _, xs, rfl, .inr rfl, hTc.same sd, hX.same sd, hG, hXG, by omega, by omega, by omega, by omega, fun c He se hc => ?_⟩
            rw [hput _ hat] at hc
            have hre := se _ _ hrd
            have hde := se _ _ hd
            walk_at "go"
            intro l3 Hf nf sf hf
            rw [cutV_to] at hf
            walk_at "go"
            refine w_cat hf (sf _ _ hde) (sz (by simp; omega)) ?_
            intro l4 Hg ng sg hg
            have hrg := sg _ _ (sf _ _ hre)
            have hdg := sg _ _ (sf _ _ hde)
            walk_at "go"
            intro l5 Hh nh sh hh
            have ei : (at_ : Int) + (u2.length : Int) = ((at_ + u2.length : Nat) : Int) := by omega
            rw [ei, cutV_from] at hh
            walk_at "go"
            refine w_cat (sh _ _ hg) hh (sz (by simp; omega)) ?_
            intro l Hj nj sj hj
            walk_at "go"
            have S : Same Hd Hj := (((se.trans sf).trans sg).trans sh).trans sj
            have hsl := PM.splice_length (R := row) (N := PM.each xs) hat
            refine ⟨c, l, st ++ more, PM.splice row (PM.each xs) at_, us.take at_ ++ u2 ++ us.drop (at_ + u2.length), _, _, _, _, _, _, rfl, lists Hj c l _ _ S (fun o e => ?_) (hc.same (((sf.trans sg).trans sh).trans sj)) hj ?_ (fsp _) (gsp _) (by omega)⟩
            · have := (((se.trans sf).trans sg).trans sh) _ _ e
              rw [nj] at this
              cases this
            · rw [hl2]
              exact paired_append (paired_append (paired_take _ (cs_tu hUd (.of S))) (cs_tu cd (.of S))) (paired_drop _ (cs_tu hUd (.of S)))
      · rintro σ Hc ⟨lv, r, st', row, us, v6, v7, v8, v9, v10, v11, rfl, R⟩
        obtain ⟨hT, hr1, hU, hSt, hF, hC, hl, hsl, hm, hms, hml, hpu, rp, rd, rm, kp⟩ := id R
        walk_at "go"
        intro t Hd nd sd hd
        walk_at "go"
        refine w_append (sd _ _ hm) (sz1 (by omega)) (fun He be he => ?_)
        have tde : Tu Hc He := (Tu.of sd).trans (be.tu (sd _ _ hm))
        have kde : ∀ b o, Hc b = some o → b ≠ m → He b = some o := fun b o e nb => be _ _ (sd _ _ e) nb
        walk_at "go"
        refine ⟨lv, r, d, us, row, st', rfl, hT.tu tde, kde _ _ hr1 rm, cs_tu hU tde, hSt.mono (fun o e => kde _ _ e dm0) tde, hF, hC, by omega, by omega, fun Hf sf => ?_⟩
        have tdf : Tu Hc Hf := tde.trans (.of sf)
        have kdf : ∀ b o, Hc b = some o → b ≠ m → Hf b = some o := fun b o e nb => sf _ _ (kde b o e nb)
        walk_at "go"
        refine ⟨lv, r, st', row, us, ms ++ [.ref t], _, _, _, _, _, _, _, rfl, ⟨hT.tu tdf, kdf _ _ hr1 rm, cs_tu hU tdf, hSt.mono (fun o e => kdf _ _ e dm0) tdf, hF, hC, hl, hsl, sf _ _ he, fun x hx => ?_, ?_, ?_, rp, rd, rm, fun b o e nb => kdf b o (kp b o e nb) (ne_of_none ((((s1.trans s2).trans s3)) _ _ e) n4)⟩⟩
        · rw [List.mem_append] at hx
          rcases hx with hx | hx
          · exact (hms x hx).mono0 (fun b o e _ _ nm => kdf b o e nm) tdf
          · rw [List.mem_singleton] at hx
            subst hx
            exact ⟨t, r, lv, us, row, rfl, same_tup sf ((be.tu (sd _ _ hm)).tup (tof hd)), hT.tu tdf, kdf _ _ hr1 rm, rp, rd, rm, cs_tu hU tdf, hF, hC, by omega⟩
        · simp
          omega
        · obtain ⟨a1, a2, e, z1⟩ := hpu
          exact ⟨a1, a2, kdf _ _ e (Ne.symm np3), z1⟩
    · rintro σ Hi ⟨lv, r, st, row, us, ms, v5, v6, v7, v8, v9, v10, v11, rfl, R⟩
      have hml := R.mlen
      have hsl := R.slen
      walk_at "go"
      refine w_lcL (K := K) (a := m) (fun i v _ => v = .bl ((fun _ => true) i)) (mon_const _) (lof R.met) (by omega) (fun i x Ha hi sa Q' q => ?_) (fun D Ha acc na sa hD hA => ?_) _ (fun Z z => ⟨_, rfl, z⟩)
      · obtain ⟨t, r', lv', us', row', rfl, h1, h2, h3, _, _, _, h4, h5, h6, h7⟩ := R.mets x (List.mem_of_getElem? hi)
        have h1 := same_tup sa h1
        walk_at "go"
        refine ⟨rfl, ?_⟩
        walk_at "go"
        exact ⟨lv', r', d, us', row', st, rfl, h2.same sa, sa _ _ h3, cs_tu h4 (.of sa), R.sto.same sa, h5, h6, h7, by omega, fun Hb sb => q _ _ sb rfl⟩
      · have e := LcT.map V.bl (fun _ => true) hA
        subst e
        walk_at "go"
        refine w_all (lof hD) ?_
        rw [all_true]
        exact k _ fun b o e nb => sa _ _ (R.keep b o e nb)
def spLaw (K : PySem.W.Frag) : Sp := fun vs H Q _ => ∃ (a : Addr) (ns : List Int), vs = [.ref a] ∧ SqL K H a (ns.map V.int) ∧ ns.length ≤ 63 ∧ ∀ H', Q (.bl true) H'
theorem ok_law (M : Md K mg) {fd : FuncData} (F : FunD K "law" "law" (defArgs s_law) (defBody s_law) (defScope s_law) [] [] (He.ga K "law") fd) : FnOk P w K mg base CX0 8 (He.ga K "law") fd ["_law_script"] (spLaw K) := by
  have D__law_purse := ok_law_purse (P := P) (w := w) (base := base) M
  have D__law_row_right := ok_law_row_right (P := P) (w := w) (base := base) M
  refine F.ok sc_law (fun vs H Q E h => ?_) (fun cdv A outer s H vs Q E hr h => ?_)
  · obtain ⟨a, ns, rfl, _⟩ := h
    rfl
  · obtain ⟨a, ns, rfl, hS, hl, k⟩ := h
    refine ⟨_, PSs.nox (pss_one (ps_ret (pe_callB (k_all (K := K) rfl rfl) (by rfl) M.z_all bt_all (pa_cons (pe_lc (own := [("_law_k", 1)]) (g := (gName 1)) rfl sc_law.nd (pi_range1 (by rfl) M.z_range (pa_cons (pe_callB (call_maxN rfl) (by rfl) M.z_max bt_max (pa_cons pe_int (pa_cons (pe_callB (call_minN rfl) (by rfl) M.z_min bt_min (pa_cons pe_int (pa_cons (pe_callB (k_len (K := K) rfl) (by rfl) M.z_len bt_len (pa_cons (pv 0) pa_nil)) pa_nil))) pa_nil))) pa_nil)) (blkOk_by (own := [("_law_k", 1)]) (N := ["_law_script", "_law_k"]) (sc := defScope s_law) (by decide +kernel)) (fun _ _ _ _ _ => (pg_name (i := 1) sc_law.nd rfl (Or.inl rfl))) (fun _ _ _ _ _ => pts_nil) (fun _ _ _ _ _ => (pe_cl D__law_row_right (hr.mono (by decide)) (by rfl) pass0 (pa_cons (pe_cl D__law_purse (hr.mono (by decide)) (by rfl) pass0 (pa_cons (pv 0) (pa_cons (pv 1) pa_nil))) pa_nil)))) pa_nil)))), ?_⟩
    try dsimp only [cxOf, Cx.nox]
    walk_at "go"
    refine w_lc ?_
    walk_at "go"
    rw [List.length_map]
    have hb : ∀ z : Int, z = (if (if (ns.length : Int) < 4 then (ns.length : Int) else 4) > 2 then (if (ns.length : Int) < 4 then (ns.length : Int) else 4) else 2) → 0 ≤ z ∧ z ≤ 4 := by
      intro z hz
      subst hz
      split <;> split <;> omega
    have hb := hb _ rfl
    generalize (if (if (ns.length : Int) < 4 then (ns.length : Int) else 4) > 2 then (if (ns.length : Int) < 4 then (ns.length : Int) else 4) else 2) = z at hb ⊢
    refine lc_R z (fun i v _ => v = .bl ((fun _ => true) i)) (mon_const _) (by omega) (by omega) (fun i Ha hi sa Q' q => ?_) (fun D Ha acc na sa hD hA => ?_)
    · refine ⟨rfl, ?_⟩
      walk_at "go"
      refine ⟨a, ns, i, by rw [Int.zero_add]; rfl, sa.seq hS, hl, by omega, fun p H2 n2 s2 hp => ?_⟩
      walk_at "go"
      exact ⟨p, rfl, hp, fun H3 b3 => q _ _ (b3.same n2 s2) rfl⟩
    · have e := LcT.map V.bl (fun _ => true) hA
      subst e
      walk_at "go"
      refine w_all (lof hD) ?_
      rw [all_true]
      exact k _
end
end Fz
namespace Fz
open PySem PySem.Spec PyProof.Rows L2
def dd_is_whole : He.DefD := ⟨("is_whole", none), "is_whole", "is_whole", defArgs s_is_whole, defBody s_is_whole, defScope s_is_whole, [], []⟩
def dd_is_within : He.DefD := ⟨("is_within", none), "is_within", "is_within", defArgs s_is_within, defBody s_is_within, defScope s_is_within, [], []⟩
def dd_is_part : He.DefD := ⟨("is_part", none), "is_part", "is_part", defArgs s_is_part, defBody s_is_part, defScope s_is_part, [], []⟩
def dd_is_parts : He.DefD := ⟨("is_parts", none), "is_parts", "is_parts", defArgs s_is_parts, defBody s_is_parts, defScope s_is_parts, [], []⟩
def dd_check_parts : He.DefD := ⟨("check_parts", none), "check_parts", "check_parts", defArgs s_check_parts, defBody s_check_parts, defScope s_check_parts, [], []⟩
def dd_check_place : He.DefD := ⟨("check_place", none), "check_place", "check_place", defArgs s_check_place, defBody s_check_place, defScope s_check_place, [], []⟩
def dd_size_of : He.DefD := ⟨("size_of", none), "size_of", "size_of", defArgs s_size_of, defBody s_size_of, defScope s_size_of, [], []⟩
def dd_as_one : He.DefD := ⟨("as_one", none), "as_one", "as_one", defArgs s_as_one, defBody s_as_one, defScope s_as_one, [], []⟩
def dd_ahead_of : He.DefD := ⟨("ahead_of", none), "ahead_of", "ahead_of", defArgs s_ahead_of, defBody s_ahead_of, defScope s_ahead_of, [], []⟩
def dd_from_on : He.DefD := ⟨("from_on", none), "from_on", "from_on", defArgs s_from_on, defBody s_from_on, defScope s_from_on, [], []⟩
def dd_spliced : He.DefD := ⟨("spliced", none), "spliced", "spliced", defArgs s_spliced, defBody s_spliced, defScope s_spliced, [], []⟩
def dd_first_of : He.DefD := ⟨("first_of", none), "first_of", "first_of", defArgs s_first_of, defBody s_first_of, defScope s_first_of, [], []⟩
def dd_length : He.DefD := ⟨("length", none), "length", "length", defArgs s_length, defBody s_length, defScope s_length, [], []⟩
def dd_put : He.DefD := ⟨("put", none), "put", "put", defArgs s_put, defBody s_put, defScope s_put, [], [("place", .non)]⟩
def dd_cut : He.DefD := ⟨("cut", none), "cut", "cut", defArgs s_cut, defBody s_cut, defScope s_cut, [], []⟩
def dd_cells : He.DefD := ⟨("cells", none), "cells", "cells", defArgs s_cells, defBody s_cells, defScope s_cells, [], []⟩
def dd_law_purse : He.DefD := ⟨("_law_purse", none), "_law_purse", "_law_purse", defArgs s_law_purse, defBody s_law_purse, defScope s_law_purse, [], []⟩
def dd_law_take : He.DefD := ⟨("_law_take", none), "_law_take", "_law_take", defArgs s_law_take, defBody s_law_take, defScope s_law_take, [], []⟩
def dd_law_whole : He.DefD := ⟨("_law_whole", none), "_law_whole", "_law_whole", defArgs s_law_whole, defBody s_law_whole, defScope s_law_whole, [], []⟩
def dd_law_each : He.DefD := ⟨("_law_each", none), "_law_each", "_law_each", defArgs s_law_each, defBody s_law_each, defScope s_law_each, [], []⟩
def dd_law_runs : He.DefD := ⟨("_law_runs", none), "_law_runs", "_law_runs", defArgs s_law_runs, defBody s_law_runs, defScope s_law_runs, [], []⟩
def dd_law_is : He.DefD := ⟨("_law_is", none), "_law_is", "_law_is", defArgs s_law_is, defBody s_law_is, defScope s_law_is, [], []⟩
def dd_law_few : He.DefD := ⟨("_law_few", none), "_law_few", "_law_few", defArgs s_law_few, defBody s_law_few, defScope s_law_few, [], []⟩
def dd_law_extra : He.DefD := ⟨("_law_extra", none), "_law_extra", "_law_extra", defArgs s_law_extra, defBody s_law_extra, defScope s_law_extra, [], []⟩
def dd_law_right : He.DefD := ⟨("_law_right", none), "_law_right", "_law_right", defArgs s_law_right, defBody s_law_right, defScope s_law_right, [], []⟩
def dd_law_row_right : He.DefD := ⟨("_law_row_right", none), "_law_row_right", "_law_row_right", defArgs s_law_row_right, defBody s_law_row_right, defScope s_law_row_right, [], []⟩
def dd_law : He.DefD := ⟨("law", none), "law", "law", defArgs s_law, defBody s_law, defScope s_law, [], []⟩
def fnl : List He.DefD := [dd_is_whole, dd_is_within, dd_is_part, dd_is_parts, dd_check_parts, dd_check_place, dd_size_of, dd_as_one, dd_ahead_of, dd_from_on, dd_spliced, dd_first_of, dd_length, dd_put, dd_cut, dd_cells, dd_law_purse, dd_law_take, dd_law_whole, dd_law_each, dd_law_runs, dd_law_is, dd_law_few, dd_law_extra, dd_law_right, dd_law_row_right, dd_law]
def fal : List He.Fa := [.free "isinstance", .free "int", .free "bool", .free "tuple", .free "list", .free "dict", .free "len", .free "all", .free "sum", .free "min", .free "max", .free "range", .glo "is_whole", .glo "is_within", .glo "is_part", .glo "is_parts", .glo "check_parts", .glo "check_place", .glo "size_of", .glo "as_one", .glo "ahead_of", .glo "from_on", .glo "spliced", .glo "first_of", .glo "length", .glo "put", .glo "cut", .glo "cells", .glo "_law_purse", .glo "_law_take", .glo "_law_whole", .glo "_law_each", .glo "_law_runs", .glo "_law_is", .glo "_law_few", .glo "_law_extra", .glo "_law_right", .glo "_law_row_right", .glo "law"]
abbrev R : PySem.W.OpenRow := PySem.W.OpenLaw.row PySem.Challenge.rw_farfiles_k10_whole_puts_and_cuts_by_turn
abbrev hk : PySem.W.Hook := He.hookD 4 fal fnl
def ob (s : PySem.W.SharedT) : He.AlD := He.obsDG 4 fal fnl (HandSHeadRun.getT s)
theorem ob_eq (s : PySem.W.SharedT) : ob s = hk.obs s.abs := He.obsDG_eq (HandSHeadRun.getT_eq s)
def loose0 : List PySem.Str := ["__name__", "FarError", "NoParts", "NoPlace", "NoPiece", "is_whole", "is_within", "is_part", "is_parts", "check_parts", "check_place", "size_of", "as_one", "ahead_of", "from_on", "spliced", "first_of", "length", "put", "cut", "cells", "_law_purse", "_law_take", "_law_whole", "_law_each", "_law_runs", "_law_is", "_law_few", "_law_extra", "_law_right"]
def loose1 : List PySem.Str := ["_law_row_right"]
def loose : List PySem.Str := loose0 ++ loose1
theorem run (w : World) : HandSHeadRun.RunEq R (PySem.W.view R.prog [34]) hk ob 20000 loose w := by
  intro os
  kernel_rfl
theorem md_of {K : PySem.W.Frag} {h : Heap} {mg : Str → Option Value} (X : K.In h) (G : h.Ns mainGlobals mg) (c : He.SaysD fal fnl K) : Md K mg where
  z_isinstance := He.free_ok X G (c.fact 0 (f := .free "isinstance") rfl)
  z_int := He.free_ok X G (c.fact 1 (f := .free "int") rfl)
  z_bool := He.free_ok X G (c.fact 2 (f := .free "bool") rfl)
  z_tuple := He.free_ok X G (c.fact 3 (f := .free "tuple") rfl)
  z_list := He.free_ok X G (c.fact 4 (f := .free "list") rfl)
  z_dict := He.free_ok X G (c.fact 5 (f := .free "dict") rfl)
  z_len := He.free_ok X G (c.fact 6 (f := .free "len") rfl)
  z_all := He.free_ok X G (c.fact 7 (f := .free "all") rfl)
  z_sum := He.free_ok X G (c.fact 8 (f := .free "sum") rfl)
  z_min := He.free_ok X G (c.fact 9 (f := .free "min") rfl)
  z_max := He.free_ok X G (c.fact 10 (f := .free "max") rfl)
  z_range := He.free_ok X G (c.fact 11 (f := .free "range") rfl)
  g_is_whole := He.glo_ok X G (c.fact 12 (f := .glo "is_whole") rfl)
  d_is_whole := c.def_ 0 (d := dd_is_whole) rfl
  g_is_within := He.glo_ok X G (c.fact 13 (f := .glo "is_within") rfl)
  d_is_within := c.def_ 1 (d := dd_is_within) rfl
  g_is_part := He.glo_ok X G (c.fact 14 (f := .glo "is_part") rfl)
  d_is_part := c.def_ 2 (d := dd_is_part) rfl
  g_is_parts := He.glo_ok X G (c.fact 15 (f := .glo "is_parts") rfl)
  d_is_parts := c.def_ 3 (d := dd_is_parts) rfl
  g_check_parts := He.glo_ok X G (c.fact 16 (f := .glo "check_parts") rfl)
  d_check_parts := c.def_ 4 (d := dd_check_parts) rfl
  g_check_place := He.glo_ok X G (c.fact 17 (f := .glo "check_place") rfl)
  d_check_place := c.def_ 5 (d := dd_check_place) rfl
  g_size_of := He.glo_ok X G (c.fact 18 (f := .glo "size_of") rfl)
  d_size_of := c.def_ 6 (d := dd_size_of) rfl
  g_as_one := He.glo_ok X G (c.fact 19 (f := .glo "as_one") rfl)
  d_as_one := c.def_ 7 (d := dd_as_one) rfl
  g_ahead_of := He.glo_ok X G (c.fact 20 (f := .glo "ahead_of") rfl)
  d_ahead_of := c.def_ 8 (d := dd_ahead_of) rfl
  g_from_on := He.glo_ok X G (c.fact 21 (f := .glo "from_on") rfl)
  d_from_on := c.def_ 9 (d := dd_from_on) rfl
  g_spliced := He.glo_ok X G (c.fact 22 (f := .glo "spliced") rfl)
  d_spliced := c.def_ 10 (d := dd_spliced) rfl
  g_first_of := He.glo_ok X G (c.fact 23 (f := .glo "first_of") rfl)
  d_first_of := c.def_ 11 (d := dd_first_of) rfl
  g_length := He.glo_ok X G (c.fact 24 (f := .glo "length") rfl)
  d_length := c.def_ 12 (d := dd_length) rfl
  g_put := He.glo_ok X G (c.fact 25 (f := .glo "put") rfl)
  d_put := c.def_ 13 (d := dd_put) rfl
  g_cut := He.glo_ok X G (c.fact 26 (f := .glo "cut") rfl)
  d_cut := c.def_ 14 (d := dd_cut) rfl
  g_cells := He.glo_ok X G (c.fact 27 (f := .glo "cells") rfl)
  d_cells := c.def_ 15 (d := dd_cells) rfl
  g_law_purse := He.glo_ok X G (c.fact 28 (f := .glo "_law_purse") rfl)
  d_law_purse := c.def_ 16 (d := dd_law_purse) rfl
  g_law_take := He.glo_ok X G (c.fact 29 (f := .glo "_law_take") rfl)
  d_law_take := c.def_ 17 (d := dd_law_take) rfl
  g_law_whole := He.glo_ok X G (c.fact 30 (f := .glo "_law_whole") rfl)
  d_law_whole := c.def_ 18 (d := dd_law_whole) rfl
  g_law_each := He.glo_ok X G (c.fact 31 (f := .glo "_law_each") rfl)
  d_law_each := c.def_ 19 (d := dd_law_each) rfl
  g_law_runs := He.glo_ok X G (c.fact 32 (f := .glo "_law_runs") rfl)
  d_law_runs := c.def_ 20 (d := dd_law_runs) rfl
  g_law_is := He.glo_ok X G (c.fact 33 (f := .glo "_law_is") rfl)
  d_law_is := c.def_ 21 (d := dd_law_is) rfl
  g_law_few := He.glo_ok X G (c.fact 34 (f := .glo "_law_few") rfl)
  d_law_few := c.def_ 22 (d := dd_law_few) rfl
  g_law_extra := He.glo_ok X G (c.fact 35 (f := .glo "_law_extra") rfl)
  d_law_extra := c.def_ 23 (d := dd_law_extra) rfl
  g_law_right := He.glo_ok X G (c.fact 36 (f := .glo "_law_right") rfl)
  d_law_right := c.def_ 24 (d := dd_law_right) rfl
  g_law_row_right := He.glo_ok X G (c.fact 37 (f := .glo "_law_row_right") rfl)
  d_law_row_right := c.def_ 25 (d := dd_law_row_right) rfl
  g_law := He.glo_ok X G (c.fact 38 (f := .glo "law") rfl)
  d_law := c.def_ 26 (d := dd_law) rfl
theorem facts {P : Program} {w : World} {K : PySem.W.Frag} {h : Heap} {mg : Str → Option Value} {f : Addr} (X : K.In h) (G : h.Ns mainGlobals mg) (hfa : mg ("law" : Str) = some (.ref f)) (c : He.SaysD fal fnl K) :
    ∃ fd : FuncData, (∀ (s : Shared) (v : Value), BindsTo s fd ⟨[v], []⟩ [("_law_script", v)]) ∧ ∀ base : Heap, K.In base → base.Ns mainGlobals mg → FnOk P w K mg base CX0 8 f fd ["_law_script"] (spLaw K) := by
  have M := md_of X G c
  have e := hfa.symm.trans M.g_law
  cases e
  obtain ⟨fd, F⟩ := M.d_law
  have b := FunD.bindsA (ps := ["_law_script"]) F fun _ _ _ _ _ _ us hl => match us, hl with | [_], _ => rfl
  exact ⟨fd, fun s v => b s [v] rfl, fun base _ _ => ok_law M F⟩
end Fz
open PySem PySem.W PySem.Calls PyProof.Rows
set_option maxRecDepth 100000 in
set_option maxHeartbeats 0 in
theorem PySem.Challenge.cw_farfiles_k10_whole_puts_and_cuts_by_turn_holds : PySem.Challenge.rw_farfiles_k10_whole_puts_and_cuts_by_turn.Holds := by
  w_on; o_law
  refine HandSHeadRun.head_any (r := OpenLaw.row PySem.Challenge.rw_farfiles_k10_whole_puts_and_cuts_by_turn) (q := view (OpenLaw.row PySem.Challenge.rw_farfiles_k10_whole_puts_and_cuts_by_turn).prog [34]) (H := Fz.hk) (ob := Fz.ob) (M := 20000) (loose := Fz.loose) (d := HandSHeadRun.topDef (OpenLaw.row PySem.Challenge.rw_farfiles_k10_whole_puts_and_cuts_by_turn).prog 34) (kwd := []) Fz.ob_eq
    (by kernel_rfl) (fun s => by kernel_rfl) Fz.run (by kernel_rfl) (by kernel_rfl) (by kernel_rfl) (by rfl) (by first | assumption | decide +kernel) (by decide +kernel) ⟨rfl, rfl, rfl, rfl, rfl, by decide +kernel⟩ ?hw ?hc
  case hw => w_witness2
  case hc =>
    refine L2.walk_ofE (l := PySem.Challenge.rw_farfiles_k10_whole_puts_and_cuts_by_turn) (n := 63) (k := 8) (x := "_law_script") (CX := L2.CX0) rfl (by decide) (by kernel_rfl) ⟨rfl, by decide, by decide⟩ ?F (fun _ _ _ _ z => z)
    intro w mg fa h Y G hmg0
    obtain ⟨K, KX, c⟩ := Y
    have hmg : mg ("law" : PySem.Str) = some (.ref fa) := by
      have e : (HandSHeadRun.topDef (OpenLaw.row PySem.Challenge.rw_farfiles_k10_whole_puts_and_cuts_by_turn).prog 34).name = ("law" : PySem.Str) := by kernel_rfl
      rw [← e]
      exact hmg0
    obtain ⟨fd, hb, hF⟩ := Fz.facts (P := (PySem.Challenge.rw_farfiles_k10_whole_puts_and_cuts_by_turn).prog) (w := w) KX G hmg c
    exact ⟨K, fd, Fz.spLaw K, KX, hb, fun H a ns hl _ hS => ⟨a, ns, rfl, hS, hl, fun _ => rfl⟩, hF⟩
