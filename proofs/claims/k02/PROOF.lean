import PyProof.Rows.All
import Wide.All
import OpenK.AllK
import Wide.FinOn
import KE.KStateDown
import Lean
import HandS.ForMost
import HandS.Walk
import PyProof.StrLawsRepr
import PyProof.ReprRoads
import HandS.Exc
import PyProof.Rows.SortShellAny
import HandS.SetFor
import HandS.TupSets
import HandS.SetTxt0
import HandS.Set
import HandS.Deep
import HandS.TryMany
import HandS.HotCalls
import HandS.ExcInit
import HandS.ExcField
import HandS.ExcIs
import HandS.More
import HandS.TryOnly
import HandS.ExcOwn
import HandS.WordsExc
import HandS.IsInst
import HandS.Style
import HandS.TupLe
import HandS.TupAny
import HandS.TupMul
import HandS.Defaults
import HandS.Evl
import HandS.Flow
import HandS.CallLocal
import HandS.ListItems
import HandS.DictComp
import HandS.Conv
import KE.KDictPairs
import HandS.Head0
import HandS.Head1
import HandS.Head2
import HandS.HeadEnd
import HandS.HeadHook1
import HandS.HeadHook2
import HandS.DictTup
import HandS.HeadHook3
import HandS.NoneIn
import HandS.SortKw
import HandS.Zip
import KE.DataMinMax
import KE.KDictSum
import KE.KUnpackStar
import KE.SortData
import PySem.Challenge.RW_farfiles_k02_rights_and_groups_of_any_ki
set_option Elab.async false
set_option linter.all false
set_option maxRecDepth 100000
set_option maxHeartbeats 4000000
/-! ### defs that may ask for repr: the room knows that no repr runs around -/
namespace Fz
open PySem PySem.Spec PyProof.Rows L2
structure RoomG (k : Nat) (A : Around) : Prop extends Room k A where
  gs : A.guards = some []
theorem RoomG.mono {j k : Nat} {A : Around} (r : RoomG k A) (h : j ≤ k) : RoomG j A := ⟨r.toRoom.mono h, r.gs⟩
section
variable {P : Program} {w : World} {K : PySem.W.Frag} {mg : Str → Option Value} {base : Heap} {CX : CXT} {k : Nat} {f : Addr} {fd : FuncData} {ps : List Str} {sp : Sp}
variable (P w K mg base CX k f fd ps sp) in
structure FnG : Prop where
  len : ∀ vs H Q E, sp vs H Q E → vs.length = ps.length
  run : ∀ (A : Around) (outer : List Env) (s : Shared) (H : Hp) (args : Args) (us : List Value) (vs : List V) (Q : VK) (E : XK), RoomG k A → Env0 P w K mg base A outer s H → BindsTo s fd args (ps.zip us) → Vals vs us → sp vs H Q E →
    codeAny (model P w) A (.call (.ref f) args) (CR CX outer P w H s Q E) s
theorem FnG.of (F : FnOk P w K mg base CX k f fd ps sp) : FnG P w K mg base CX k f fd ps sp := ⟨F.len, fun A outer s H args us vs Q E hr => F.run A outer s H args us vs Q E hr.toRoom⟩
end
/-! ### calls of such defs -/
/-! ### the law's end -/
end Fz
/-! ### the layer of this work: heaps that go on, defs by name, readings step by step -/
namespace Fz
open PySem L2
section
variable {K : PySem.W.Frag} {H H' H1 H2 : Hp} {a p : Addr} {o : HO} {xs : List V}
theorem new_same (hp : H p = none) : Same H (upd H p o) := fun b u e => by rw [upd_ne (ne_of_none e hp)]; exact e
/-- what never changes: tuples, and what is locked -/
def Imm : HO → Prop
  | .tup _ => True
  | .frz _ _ => True
  | .xd _ => True
  | _ => False
/-- these stay -/
def Tu (H H' : Hp) : Prop := ∀ b o, H b = some o → Imm o → H' b = some o
theorem Tu.tup (e : Tu H H') (h : SqT K H a xs) : SqT K H' a xs := by
  rcases h with (h | ⟨o, h⟩) | h
  · exact .inl (.inl (e _ _ h trivial))
  · exact .inl (.inr ⟨o, e _ _ h trivial⟩)
  · exact .inr h
theorem Tu.of (e : Same H H') : Tu H H' := fun b o h _ => e b o h
theorem Tu.refl (H : Hp) : Tu H H := fun _ _ h _ => h
theorem Tu.trans (a : Tu H H1) (b : Tu H1 H2) : Tu H H2 := fun c o h n => b c o (a c o h n) n
theorem Tu.but {l : Addr} {u : HO} (h : H l = some u) (m : ¬ Imm u) (k : ∀ b o, H b = some o → b ≠ l → H' b = some o) : Tu H H' := fun b o e n => k b o e (by
  rintro rfl
  rw [h] at e
  cases e
  exact m n)
theorem Tu.set {l : Addr} {ys : List V} (h : H l = some (.lst ys)) (o : HO) : Tu H (upd H l o) := Tu.but h (fun z => z) fun b u e n => by rw [upd_ne n]; exact e
/-- all but one list stay -/
def But (p : Addr) (H H' : Hp) : Prop := ∀ b o, H b = some o → b ≠ p → H' b = some o
theorem But.of (e : Same H H') : But p H H' := fun b o h _ => e b o h
theorem But.refl : But p H H := fun _ _ h _ => h
theorem But.trans (a : But p H H1) (b : But p H1 H2) : But p H H2 := fun c o h n => b c o (a c o h n) n
theorem But.set : But p H (upd H p o) := fun b u e n => by rw [upd_ne n]; exact e
theorem But.seq (e : But p H H') (h : SqL K H a xs) (n : a ≠ p) : SqL K H' a xs := by
  rcases h with (h | ⟨o, h⟩) | h
  · exact .inl (.inl (e _ _ h n))
  · exact .inl (.inr ⟨o, e _ _ h n⟩)
  · exact .inr h
theorem But.tu {ys : List V} (e : But p H H') (h : H p = some (.lst ys)) : Tu H H' := Tu.but h (fun z => z) e
/-- what was new ahead is no list changed since -/
theorem But.same (e : But p H1 H') (n : H p = none) (s : Same H H1) : Same H H' := fun b o h => e b o (s b o h) (ne_of_none h n)
end
/-! ### the purse -/
def Pur (H : Hp) (p : Addr) : Prop := ∃ a b : Int, H p = some (.lst [.int a, .int b]) ∧ 0 ≤ b ∧ b < 2 ^ 40
structure Go (p : Addr) (H H' : Hp) : Prop where
  keep : But p H H'
  tu : Tu H H'
  pur : Pur H' p
theorem Go.refl {p : Addr} {H : Hp} (h : Pur H p) : Go p H H := ⟨But.refl, Tu.refl H, h⟩
theorem Go.trans {p : Addr} {H H1 H2 : Hp} (a : Go p H H1) (b : Go p H1 H2) : Go p H H2 := ⟨a.keep.trans b.keep, a.tu.trans b.tu, b.pur⟩
theorem Pur.same {p : Addr} {H H' : Hp} (h : Pur H p) (e : Same H H') : Pur H' p := let ⟨a, b, q, r⟩ := h; ⟨a, b, e _ _ q, r⟩
theorem Go.same {p : Addr} {H H1 H2 : Hp} (a : Go p H H1) (e : Same H1 H2) : Go p H H2 := ⟨a.keep.trans (.of e), a.tu.trans (.of e), a.pur.same e⟩
theorem Go.of {p : Addr} {H H' : Hp} (h : Pur H p) (e : Same H H') : Go p H H' := (Go.refl h).same e
/-! ### a def by its name -/
end Fz
/-! ### readings, a step at a time: each is the reading's own word, unfolded once -/

/-! ### readings by names, heaps as letters -/
namespace Fz
open PySem PySem.Spec PyProof.Rows L2
abbrev NewQ (H : Hp) (o : HO) (Q : VK) : Prop := ∀ p H2, H p = none → Same H H2 → H2 p = some o → Q (.ref p) H2
theorem NewQ.at {H : Hp} {o : HO} {Q : VK} (h : NewQ H o Q) (p : Addr) (n : H p = none) : Q (.ref p) (upd H p o) := h p _ n (new_same n) upd_same
end Fz
/-! ### the rules with the written part named -/
namespace Fz
open PySem PySem.Spec PyProof.Rows L2
section
variable {X : Cx} {K : PySem.W.Frag} (e : X.K = K)
include e
end
end Fz
/-! ### comprehensions: what each element is, of which every heap that goes on tells the same -/
namespace Fz
open PySem L2
/-- T holds of a value as long as the tuples stay -/
def Mon (T : Nat → V → Hp → Prop) : Prop := ∀ i v H1 H2, T i v H1 → Tu H1 H2 → T i v H2
section
variable {K : PySem.W.Frag} {σ : L2.St} {H : Hp} {Q : VK} {te tl : TE} {g : TG} {vs : List Nat} {a p : Addr} {xs : List V}
def LcT (T : Nat → V → Hp → Prop) (n : Nat) (acc : List V) (H : Hp) : Prop := acc.length = n ∧ ∀ (j : Nat) v, acc[j]? = some v → T j v H
theorem LcT.nil {T : Nat → V → Hp → Prop} {H : Hp} : LcT T 0 [] H := ⟨rfl, fun j v e => by simp at e⟩
theorem LcT.mono {T : Nat → V → Hp → Prop} (m : Mon T) {n : Nat} {acc : List V} {H H' : Hp} (h : LcT T n acc H) (t : Tu H H') : LcT T n acc H' := ⟨h.1, fun j v e => m j v _ _ (h.2 j v e) t⟩
end
/-- the elements are those of a function -/
theorem LcT.map {α : Type} (mk : α → V) (h : Nat → α) {n : Nat} {acc : List V} {H : Hp} (l : LcT (fun i v _ => v = mk (h i)) n acc H) : acc = ((List.range n).map h).map mk := by
  apply List.ext_getElem?
  intro j
  by_cases hj : j < n
  · have h1 : j < acc.length := by rw [l.1]; exact hj
    have e := l.2 j acc[j] (List.getElem?_eq_getElem h1)
    rw [List.getElem?_eq_getElem h1, e]
    simp [hj]
  · rw [List.getElem?_eq_none (by rw [l.1]; omega), List.getElem?_eq_none (by simp; omega)]
theorem paired_mono {α β : Type} {F G : α → β → Prop} (m : ∀ a b, F a b → G a b) : ∀ {l₁ : List α} {l₂ : List β}, Paired F l₁ l₂ → Paired G l₁ l₂
  | _, _, .nil => .nil
  | _, _, .cons r t => .cons (m _ _ r) (paired_mono m t)
end Fz

/-! ### a comprehension whose source is read first -/
/-! ### calls with keywords, and where defaults fill up -/
/-! ### dicts, tuples cut and put behind a list -/
/-! ### data of any kind, as they stand in the heap (p: the purse is no part of them); their texts -/
namespace Fz
open PySem PySem.Spec PyProof.Rows L2
def kD : Key → PyData
  | .inl i => .int i
  | .inr x => .str x
mutual
inductive Dq (K : PySem.W.Frag) (p : Addr) (H : Hp) : V → PyData → Prop
  | non : Dq K p H .non .none
  | bl (b : Bool) : Dq K p H (.bl b) (.bool b)
  | int (i : Int) : Dq K p H (.int i) (.int i)
  | str (x : Str) : Dq K p H (.str x) (.str x)
  | lst {a : Addr} {xs : List V} {ds : List PyData} : a ≠ p → SqL K H a xs → DqAll K p H xs ds → Dq K p H (.ref a) (.list ds)
  | tup {a : Addr} {xs : List V} {ds : List PyData} : SqT K H a xs → DqAll K p H xs ds → Dq K p H (.ref a) (.tuple ds)
  | dct {a : Addr} {es : List (Key × V)} {ds : List PyData} : a ≠ p → H a = some (.dK es) → DqAll K p H (es.map (·.2)) ds → Dq K p H (.ref a) (.dict ((es.map fun e => kD e.1).zip ds))
inductive DqAll (K : PySem.W.Frag) (p : Addr) (H : Hp) : List V → List PyData → Prop
  | nil : DqAll K p H [] []
  | cons {v : V} {vs : List V} {d : PyData} {ds : List PyData} : Dq K p H v d → DqAll K p H vs ds → DqAll K p H (v :: vs) (d :: ds)
end
section
variable {K : PySem.W.Frag} {p : Addr} {H H' : Hp}
theorem DqAll.of : ∀ {xs : List V} {ds : List PyData}, Paired (Dq K p H) xs ds → DqAll K p H xs ds
  | _, _, .nil => .nil
  | _, _, .cons r t => .cons r (DqAll.of t)
mutual
theorem Dq.keep (k : But p H H') (t : Tu H H') : ∀ {v : V} {d : PyData}, Dq K p H v d → Dq K p H' v d
  | _, _, .non => .non
  | _, _, .bl b => .bl b
  | _, _, .int i => .int i
  | _, _, .str x => .str x
  | _, _, .lst n h a => .lst n (k.seq h n) (DqAll.keep k t a)
  | _, _, .tup h a => .tup (t.tup h) (DqAll.keep k t a)
  | _, _, .dct n h a => .dct n (k _ _ h n) (DqAll.keep k t a)
theorem DqAll.keep (k : But p H H') (t : Tu H H') : ∀ {xs : List V} {ds : List PyData}, DqAll K p H xs ds → DqAll K p H' xs ds
  | _, _, .nil => .nil
  | _, _, .cons r q => .cons (Dq.keep k t r) (DqAll.keep k t q)
end
end
/-! what is well to show; k: no dict within (true), no list within (false) -/
end Fz
/-! ### the text of data by repr -/
/-! ### texts, constants of the module, displays of dicts, calls by keywords alone -/
/-! ### data: their types, their lengths -/
namespace Fz
open PySem L2
/-! ### the bounds of data -/
end Fz
/-! ### except suites: several clauses «except NAME as n», defs called within a suite -/
namespace Fz
open PySem PySem.Spec PyProof.Rows L2
/-! ### defs called within a suite: the exception is pinned -/
structure RoomQ (k : Nat) (A : Around) : Prop where
  dp : A.depth + 3 * k + 5 < recursionLimit
  un : A.units + 16 * k + 200 < cLine
  gs : A.guards = some []
theorem RoomQ.mono {j k : Nat} {A : Around} (r : RoomQ k A) (h : j ≤ k) : RoomQ j A := ⟨by have := r.dp; omega, by have := r.un; omega, r.gs⟩
theorem RoomG.q {k : Nat} {A : Around} (r : RoomG k A) (h : Option Value) : RoomQ k (A.mark h) := ⟨r.dp, r.un, r.gs⟩
end Fz
/-! ### isinstance of an exception that is pinned; FarError.__init__(self, ..); facts of exception classes -/
namespace Fz
open PySem PySem.Spec PyProof.Rows L2
/-- p: an exception of the class at D with its dict -/
structure IsX (H : Hp) (p : Addr × Obj) (D dd : Addr) (fs : List (Str × V)) : Prop where
  cls : p.2.cls = .ref D
  dict : p.2.dict = some dd
  data : ∃ vs, p.2.data = .fields vs
  at_ : H dd = some (.xd fs)
theorem IsX.of {H : Hp} {a : Addr} {oe : Obj} {D dd : Addr} {fs : List (Str × V)} (z : Zc (.ref D) (some dd) oe) (f : ∃ vs, oe.data = .fields vs) (h : H dd = some (.xd fs)) : IsX H (a, oe) D dd fs := ⟨z.1, z.2, f, h⟩
/-! ### classes -/
end Fz
/-! ### lists of truths: count, index -/
/-! ### calls in a try's body: what is wished of an exception knows the slots -/
namespace Fz
open PySem PySem.Spec PyProof.Rows L2
/-! ### an exception's own __init__, its raise -/
end Fz
/-! ### the head's facts, with tests of one's own -/
namespace Fz
open PySem
def obsX (fa : List He.Fa) (fn : List He.DefD) (chk : PySem.W.Frag → Bool) (K : PySem.W.Frag) : He.AlD × Bool := (He.obsD fa fn K, chk K)
end Fz
/-! ### tuples that have no dict of their own -/
namespace Fz
open PySem PySem.Spec PyProof.Rows L2
/-- such a tuple, made by the program -/
def PtH (H : Hp) (a : Addr) (xs : List V) : Prop := ∃ o : Obj, o.dict = none ∧ H a = some (.frz o (.tup xs))
/-- such a tuple -/
def Pt (K : PySem.W.Frag) (H : Hp) (a : Addr) (xs : List V) : Prop :=
  PtH H a xs ∨ ∃ (o : Obj) (its : Array Value) (n : Nat), K.lookup a = some o ∧ o.cls = .type "tuple" ∧ o.dict = none ∧ o.data = .seq its n ∧ its.size ≤ sizeLine ∧ Vals xs its.toList
section
variable {K : PySem.W.Frag} {H H' : Hp} {a : Addr} {xs : List V}
theorem Tu.pt (e : Tu H H') (h : Pt K H a xs) : Pt K H' a xs := by
  rcases h with ⟨o, d, h⟩ | h
  · exact .inl ⟨o, d, e _ _ h trivial⟩
  · exact .inr h
end
end Fz
/-! ### comparisons that look at kinds and lengths alone -/
/-! ### x[lo:hi:-1], lists and tuples -/
/-! ### dicts compared -/
namespace Fz
open PySem PySem.Spec PyProof.Rows L2
def valP (kvs : List (Key × PyData)) (k : Key) : Option PyData := (kvs.find? fun kv => decide (kv.1 = k)).map (·.2)
abbrev PyKV (K : PySem.W.Frag) (H : Hp) (ks : List (Key × V)) (pa : List (Key × PyData)) : Prop := Paired (fun p q => p.1 = q.1 ∧ Dp K H p.2 q.2 ∧ SeqAt.shaped q.2 = true) ks pa
theorem PyKV.val {K : PySem.W.Frag} {H : Hp} (k : Key) : ∀ {ks : List (Key × V)} {pa : List (Key × PyData)}, PyKV K H ks pa → (valV ks k = none ∧ valP pa k = none) ∨ ∃ v p, valV ks k = some v ∧ valP pa k = some p ∧ Dp K H v p ∧ SeqAt.shaped p = true
  | _, _, .nil => .inl ⟨rfl, rfl⟩
  | _, _, .cons (a := p) (b := q) h t => by
    obtain ⟨p1, p2⟩ := p
    obtain ⟨q1, q2⟩ := q
    obtain ⟨e, r, sh⟩ := h
    simp only at e r sh
    subst e
    by_cases z : p1 = k
    · exact .inr ⟨p2, q2, valV_pos z, by simp [valP, z], r, sh⟩
    · rw [valV_neg z]
      have e1 : ∀ l : List (Key × PyData), valP ((p1, q2) :: l) k = valP l k := fun l => by simp [valP, List.find?_cons, z]
      rw [e1]
      exact PyKV.val k t
end Fz
/-! ### tuples of flat things compared -/
/-! ### sorting, as a function -/
namespace Fz
open PySem PySem.Spec PyProof.Rows L2
section
variable {α : Type} (lt : α → α → Bool)
def ins (x : α) : List α → List α
  | [] => [x]
  | y :: r => if lt y x = true then y :: ins x r else x :: y :: r
variable {lt}
end
end Fz
/-! ### sorted(set(xs)), xs texts -/
namespace Fz
open PySem PySem.Spec PyProof.Rows L2
open PySem.Froz (SD TxOk addTx sObj tailTx is_str add_ok add_x)
section
variable {P : Program} {w : World} {A : Around} {E : Value → Shared → Prop} {s : Shared}
structure TxR (P : Program) (w : World) (D : SD) (l : List Str) : Prop where
  ok : TxOk P w D l
  ris : Ris D.2.2.place.toList
  led : w.params.followText "set-order" = true ∨ D.2.2.led = true
  nd : l.Nodup
/-- a set of texts in the heap -/
def TxAt (P : Program) (w : World) (h : Heap) (a : Addr) (l : List Str) : Prop := ∃ D : SD, h.get? a = some (sObj "set" D) ∧ TxR P w D l
/-- what has been gathered of the first i texts -/
structure GotS (xs : List Str) (i : Nat) (l : List Str) : Prop where
  mem : ∀ k, k ∈ l ↔ k ∈ xs.take i
  len : l.length ≤ i
theorem GotS.zero (xs : List Str) : GotS xs 0 [] := ⟨fun k => by simp, Nat.le_refl 0⟩
end
end Fz
/-! ### the rules -/
namespace Fz
open PySem PySem.Spec PyProof.Rows L2
open PySem.Froz (SD TxOk addTx sObj tailTx is_str add_ok add_x)
theorem TxAt.at {P : Program} {w : World} {h h' : Heap} {a : Addr} {l : List Str} (x : TxAt P w h a l) (k : ∀ o, h.get? a = some o → h'.get? a = some o) : TxAt P w h' a l := by
  obtain ⟨D, e, r⟩ := x
  exact ⟨D, k _ e, r⟩
end Fz
/-! ### plain values and a plain store: what defs compute, as functions -/
namespace Dz
open PySem PySem.Spec PyProof.Rows L2 Fz
inductive D where
  | non | bl (b : Bool) | int (i : Int) | str (z : Str) | tup (xs : List D) | flst (xs : List D) | obj (i : Nat) | glob (x : Str) | ty (t : String) | exc
  deriving Inhabited
inductive MO where
  | lst (xs : List D) | dict (kvs : List (Key × D)) | inst (c : Str) (fs : List (Str × D)) | fdict (kvs : List (Key × D))
  deriving Inhabited
abbrev Store := List MO
abbrev Env := List (Option D)
inductive Res (α : Type) where
  | ok (a : α) (S : Store)
  | exc (c : Str) (fs : List (Str × D)) (S : Store)
  | bad
inductive SRes where
  | nx (ρ : Env) (S : Store) | rt (d : D) (S : Store) | bk (ρ : Env) (S : Store) | ct (ρ : Env) (S : Store) | ex (c : Str) (fs : List (Str × D)) (ρ : Env) (S : Store) | bad
abbrev Fs := Env → Store → SRes
/-! ### how they stand in the heap -/
def FzL (K : PySem.W.Frag) (H : Hp) (a : Addr) (vs : List V) : Prop := (∃ o, H a = some (.frz o (.lst vs))) ∨
  ∃ (o : Obj) (its : Array Value) (n : Nat), K.lookup a = some o ∧ o.cls = .type "list" ∧ o.dict = none ∧ o.data = .seq its n ∧ its.size ≤ sizeLine ∧ Vals vs its.toList
mutual
inductive RV (K : PySem.W.Frag) (m : List Addr) (H : Hp) : D → V → Prop
  | non : RV K m H .non .non
  | bl (b : Bool) : RV K m H (.bl b) (.bl b)
  | int (i : Int) : RV K m H (.int i) (.int i)
  | str (z : Str) : RV K m H (.str z) (.str z)
  | tup {a : Addr} {xs : List D} {vs : List V} : Pt K H a vs → RVs K m H xs vs → RV K m H (.tup xs) (.ref a)
  | flst {a : Addr} {xs : List D} {vs : List V} : FzL K H a vs → RVs K m H xs vs → RV K m H (.flst xs) (.ref a)
  | obj {i : Nat} {a : Addr} : m[i]? = some a → RV K m H (.obj i) (.ref a)
  | glob (x : Str) : RV K m H (.glob x) (.ref (He.ga K x))
  | ty (t : String) : RV K m H (.ty t) (.ty t)
  | exc (a : Addr) : RV K m H .exc (.ref a)
inductive RVs (K : PySem.W.Frag) (m : List Addr) (H : Hp) : List D → List V → Prop
  | nil : RVs K m H [] []
  | cons {d : D} {ds : List D} {v : V} {vs : List V} : RV K m H d v → RVs K m H ds vs → RVs K m H (d :: ds) (v :: vs)
end
/-- the heap has gone on -/
structure Ext (m : List Addr) (H : Hp) (m' : List Addr) (H' : Hp) : Prop where
  pre : ∀ (i : Nat) (a : Addr), m[i]? = some a → m'[i]? = some a
  tu : Tu H H'
section
variable {K : PySem.W.Frag} {m m' m1 m2 : List Addr} {H H' H1 H2 : Hp} {a : Addr} {vs : List V} {xs ys : List D} {v : V} {d : D}
theorem Ext.trans (x : Ext m H m1 H1) (y : Ext m1 H1 m2 H2) : Ext m H m2 H2 := ⟨fun i a e => y.pre i a (x.pre i a e), x.tu.trans y.tu⟩
theorem FzL.tu (h : FzL K H a vs) (t : Tu H H') : FzL K H' a vs := h.elim (fun ⟨o, e⟩ => .inl ⟨o, t _ _ e trivial⟩) .inr
mutual
theorem RV.mono (x : Ext m H m' H') : ∀ {d : D} {v : V}, RV K m H d v → RV K m' H' d v
  | _, _, .non => .non
  | _, _, .bl b => .bl b
  | _, _, .int i => .int i
  | _, _, .str z => .str z
  | _, _, .tup h q => .tup (x.tu.pt h) (RVs.mono x q)
  | _, _, .flst h q => .flst (h.tu x.tu) (RVs.mono x q)
  | _, _, .obj e => .obj (x.pre _ _ e)
  | _, _, .glob y => .glob y
  | _, _, .ty t => .ty t
  | _, _, .exc a => .exc a
theorem RVs.mono (x : Ext m H m' H') : ∀ {ds : List D} {vs : List V}, RVs K m H ds vs → RVs K m' H' ds vs
  | _, _, .nil => .nil
  | _, _, .cons h q => .cons (RV.mono x h) (RVs.mono x q)
end
theorem RVs.len : ∀ {xs : List D} {vs : List V}, RVs K m H xs vs → xs.length = vs.length
  | _, _, .nil => rfl
  | _, _, .cons _ q => congrArg (· + 1) q.len
theorem RVs.get : ∀ {xs : List D} {vs : List V} {i : Nat} {d : D}, RVs K m H xs vs → xs[i]? = some d → ∃ v, vs[i]? = some v ∧ RV K m H d v
  | _, _, _, _, .nil, e => by simp at e
  | _, _, 0, _, .cons r _, e => by simp at e; subst e; exact ⟨_, rfl, r⟩
  | _, _, i + 1, d, .cons _ t, e => by
    obtain ⟨u, h1, h2⟩ := t.get (i := i) (d := d) (by simpa using e)
    exact ⟨u, by simpa using h1, h2⟩
theorem RVs.set {d : D} {v : V} (r : RV K m H d v) : ∀ {xs : List D} {vs : List V} (i : Nat), RVs K m H xs vs → RVs K m H (xs.set i d) (vs.set i v)
  | _, _, _, .nil => .nil
  | _, _, 0, .cons _ t => .cons r t
  | _, _, i + 1, .cons q t => .cons q (t.set r i)
end
/-- pairs -/
def RKV {κ : Type} (K : PySem.W.Frag) (m : List Addr) (H : Hp) (kvs : List (κ × D)) (es : List (κ × V)) : Prop := Paired (fun (p : κ × D) (q : κ × V) => p.1 = q.1 ∧ RV K m H p.2 q.2) kvs es
theorem RKV.mono {κ : Type} {K : PySem.W.Frag} {m m' : List Addr} {H H' : Hp} {kvs : List (κ × D)} {es : List (κ × V)} (h : RKV K m H kvs es) (x : Ext m H m' H') : RKV K m' H' kvs es := paired_mono (fun _ _ z => ⟨z.1, z.2.mono x⟩) h
/-- an object of the store -/
def RO (K : PySem.W.Frag) (m : List Addr) (H : Hp) (a : Addr) : MO → Prop
  | .lst xs => ∃ vs, H a = some (.lst vs) ∧ RVs K m H xs vs
  | .dict kvs => ∃ es : List (Key × V), H a = some (.dK es) ∧ RKV K m H kvs es
  | .fdict kvs => ∃ (o : Obj) (es : List (Key × V)), H a = some (.frz o (.dK es)) ∧ RKV K m H kvs es
  | .inst c fs => ∃ (dx : Addr) (es : List (Str × V)), H a = some (.ins (He.ga K c) dx es) ∧ RKV K m H fs es
/-- the store -/
structure Rl (K : PySem.W.Frag) (m : List Addr) (S : Store) (H : Hp) : Prop where
  len : m.length = S.length
  inj : ∀ (i j : Nat) (a : Addr), m[i]? = some a → m[j]? = some a → i = j
  at_ : ∀ (i : Nat) (a : Addr) (o : MO), m[i]? = some a → S[i]? = some o → RO K m H a o
section
variable {K : PySem.W.Frag} {m m' : List Addr} {S S' : Store} {H H' : Hp} {a p : Addr} {o : MO} {i : Nat}
theorem RO.keep (h : RO K m H a o) (k : ∀ u, H a = some u → H' a = some u) (x : Ext m H m' H') : RO K m' H' a o := by
  cases o with
  | lst _ => obtain ⟨vs, e, r⟩ := h; exact ⟨vs, k _ e, r.mono x⟩
  | dict _ => obtain ⟨vs, e, r⟩ := h; exact ⟨vs, k _ e, r.mono x⟩
  | fdict _ => obtain ⟨o, vs, e, r⟩ := h; exact ⟨o, vs, k _ e, r.mono x⟩
  | inst _ _ => obtain ⟨o, vs, e, r⟩ := h; exact ⟨o, vs, k _ e, r.mono x⟩
theorem Rl.get (R : Rl K m S H) (h : S[i]? = some o) : ∃ a, m[i]? = some a ∧ RO K m H a o := by
  have hi : i < S.length := (List.getElem?_eq_some_iff.mp h).1
  have hm : i < m.length := by rw [R.len]; exact hi
  exact ⟨m[i], List.getElem?_eq_getElem hm, R.at_ i _ o (List.getElem?_eq_getElem hm) h⟩
theorem Rl.set (R : Rl K m S H) (hm : m[i]? = some a) (b : But a H H') (t : Tu H H') (h : RO K m H' a o) : Rl K m (S.set i o) H' := by
  refine ⟨by rw [List.length_set]; exact R.len, R.inj, fun j c u e1 e2 => ?_⟩
  by_cases hj : j = i
  · subst hj
    rw [hm] at e1
    cases e1
    have hj : j < S.length := by
      have := (List.getElem?_eq_some_iff.mp e2).1
      rwa [List.length_set] at this
    rw [List.getElem?_set_self hj] at e2
    cases e2
    exact h
  · rw [List.getElem?_set_ne (fun z => hj z.symm)] at e2
    exact (R.at_ j c u e1 e2).keep (fun u q => b c u q fun z => hj (R.inj j i a (z ▸ e1) hm)) ⟨fun _ _ e => e, t⟩
end
/-- the names of a def -/
def RO1 (K : PySem.W.Frag) (m : List Addr) (H : Hp) : Option V → Option D → Prop
  | some v, some d => RV K m H d v
  | none, none => True
  | _, _ => False
def En (K : PySem.W.Frag) (m : List Addr) (H : Hp) (σ : L2.St) (ρ : Env) : Prop := Paired (RO1 K m H) σ ρ
section
variable {K : PySem.W.Frag} {m m' m1 : List Addr} {H H' H1 : Hp} {σ : L2.St} {ρ : Env}
theorem paired_set {α β : Type} {F : α → β → Prop} {x : α} {y : β} (r : F x y) : ∀ {l₁ : List α} {l₂ : List β} (i : Nat), Paired F l₁ l₂ → Paired F (l₁.set i x) (l₂.set i y)
  | _, _, _, .nil => .nil
  | _, _, 0, .cons _ t => .cons r t
  | _, _, i + 1, .cons q t => .cons q (paired_set r i t)
theorem En.set (h : En K m H σ ρ) {d : D} {v : V} (r : RV K m H d v) (i : Nat) : En K m H (σ.set i (some v)) (ρ.set i (some d)) := paired_set (F := RO1 K m H) (x := some v) (y := some d) r i h
theorem En.get {i : Nat} {d : D} (h : En K m H σ ρ) (e : ρ[i]? = some (some d)) : ∃ v, σ[i]? = some (some v) ∧ RV K m H d v := by
  induction h generalizing i with
  | nil => simp at e
  | @cons a b l1 l2 r t ih =>
    cases i with
    | zero =>
      simp at e
      subst e
      cases a with
      | none => exact r.elim
      | some v => exact ⟨v, rfl, r⟩
    | succ i =>
      obtain ⟨v, h1, h2⟩ := ih (i := i) (by simpa using e)
      exact ⟨v, by simpa using h1, h2⟩
end
/-! ### pairs: looked up, put, dropped -/
def valD {κ : Type} [DecidableEq κ] (kvs : List (κ × D)) (k : κ) : Option D := (kvs.find? fun kv => decide (kv.1 = k)).map (·.2)
section
variable {κ : Type} [DecidableEq κ] {K : PySem.W.Frag} {m : List Addr} {H : Hp}
theorem RKV.val : ∀ {kvs : List (κ × D)} {es : List (κ × V)} (k : κ), RKV K m H kvs es → match valD kvs k with
    | some d => ∃ v, valV es k = some v ∧ RV K m H d v
    | none => valV es k = none
  | _, _, k, .nil => rfl
  | _, _, k, .cons (a := p) (b := q) h t => by
    obtain ⟨p1, p2⟩ := p
    obtain ⟨q1, q2⟩ := q
    obtain ⟨e, r⟩ := h
    simp only at e r
    subst e
    have ih := RKV.val k t
    by_cases z : p1 = k
    · have e1 : ∀ l : List (κ × D), valD ((p1, p2) :: l) k = some p2 := fun l => by simp [valD, List.find?_cons, z]
      rw [e1]
      exact ⟨q2, valV_pos z, r⟩
    · have e1 : ∀ l : List (κ × D), valD ((p1, p2) :: l) k = valD l k := fun l => by simp [valD, List.find?_cons, z]
      rw [e1, valV_neg z]
      exact ih
theorem RKV.len {kvs : List (κ × D)} {es : List (κ × V)} (h : RKV K m H kvs es) : kvs.length = es.length := Paired.length h
theorem RKV.lookup {fs : List (Str × D)} {es : List (Str × V)} {f : Str} {d : D} (h : RKV K m H fs es) (e : fs.lookup f = some d) : ∃ v, es.lookup f = some v ∧ RV K m H d v := by
  induction h with
  | nil => cases e
  | @cons p q ps qs h t ih =>
    obtain ⟨p1, p2⟩ := p
    obtain ⟨q1, q2⟩ := q
    obtain ⟨z, r⟩ := h
    simp only at z r
    subst z
    rw [List.lookup_cons] at e ⊢
    split at e
    · rename_i hq
      cases e
      exact ⟨q2, rfl, r⟩
    · exact ih e
end
end Dz
/-! ### readings by functions -/
namespace Dz
open PySem PySem.Spec PyProof.Rows L2 Fz
/-! ### names, constants -/
section
variable {X : Cx} {K : PySem.W.Frag} {G : Gd} {W : WX}
/-! ### operators -/
variable {a b : Expr} {fa fb : Fe} {pos : Pos} {g : D → D → Store → Res D}
/-! ### truth, tests -/
/-! ### and, or, not -/
variable {t u : Env → Store → Res Bool} {rest : List Expr}
/-! ### argument lists, tuples, lists -/
variable {es : List Expr} {fr : Env → Store → Res (List D)}
end
end Dz
/-! ### the operators -/
namespace Dz
open PySem PySem.Spec PyProof.Rows L2 Fz
section
variable {X : Cx} {K : PySem.W.Frag} {G : Gd} {W : WX} {m : List Addr} {S : Store} {H : Hp} {σ : L2.St}
/-! ### order -/
/-! ### data -/
/-! ### is None, is True; in -/
end
end Dz
/-! ### in, subscripts, slices, built-ins -/
namespace Dz
open PySem PySem.Spec PyProof.Rows L2 Fz
section
variable {X : Cx} {K : PySem.W.Frag} {G : Gd} {W : WX} {m : List Addr} {S : Store} {H : Hp} {σ : L2.St} {a b : Expr} {fa fb : Fe} {pos : Pos}
/-! ### a < b < c -/
/-! ### subscripts -/
/-! ### slices -/
end
end Dz
/-! ### built-ins called, methods of built-in types -/
namespace Dz
open PySem PySem.Spec PyProof.Rows L2 Fz
section
variable {X : Cx} {K : PySem.W.Frag} {G : Gd} {W : WX} {m : List Addr} {S : Store} {H : Hp} {σ : L2.St} {a b e : Expr} {es : List Expr} {fa fb fo : Fe} {fr : Env → Store → Res (List D)} {pos p : Pos} {x : Str} {id T : String}
/-! len -/
/-! sum, all, any, max, min -/
/-! isinstance -/
/-! tuple, list -/
/-! repr -/
/-! ### methods -/
end
end Dz
/-! ### targets, statements, calls, defs -/
namespace Dz
open PySem PySem.Spec PyProof.Rows L2 Fz
/-! slots that stay -/
def Ag (js : List Nat) (σ σ' : L2.St) : Prop := σ.length = σ'.length ∧ ∀ i, i ∉ js → σ[i]? = σ'[i]?
theorem Ag.set {i : Nat} {σ : L2.St} {v : Option V} : Ag [i] σ (σ.set i v) := ⟨by simp, fun j hj => by rw [List.getElem?_set_ne (fun z => hj (by simp [z]))]⟩
theorem Ag.trans {j k : List Nat} {σ σ1 σ2 : L2.St} (a : Ag j σ σ1) (b : Ag k σ1 σ2) : Ag (j ++ k) σ σ2 := ⟨a.1.trans b.1, fun i hi => (a.2 i fun z => hi (List.mem_append_left _ z)).trans (b.2 i fun z => hi (List.mem_append_right _ z))⟩
/-! targets -/
section
variable {X : Cx} {K : PySem.W.Frag} {G : Gd} {W : WX} {m : List Addr} {S : Store} {H : Hp} {σ : L2.St} {a b e : Expr} {es : List Expr} {fa fb fo : Fe} {fr : Env → Store → Res (List D)} {pos p : Pos} {x : Str}
/-! statements -/
def SRes.seq (r : SRes) (u : Fs) : SRes := match r with
  | .nx ρ S => u ρ S
  | r => r
variable {s t u : Fs} {st : Stmt} {rest : List Stmt}
/-! x += e, numbers -/
/-! o[i] = e -/
end
end Dz
/-! ### stores to places, dicts, calls of defs, loops, comprehensions -/
namespace Dz
open PySem PySem.Spec PyProof.Rows L2 Fz
section
variable {X : Cx} {K : PySem.W.Frag} {G : Gd} {W : WX} {m : List Addr} {S : Store} {H : Hp} {σ : L2.St} {a b e o i value : Expr} {es : List Expr} {fa fb fo fi fv : Fe} {fr : Env → Store → Res (List D)} {pos pos' p : Pos} {x : Str}
/-! d.get(k), d.get(k, x), d.pop(k), d.pop(k, x) -/
/-! ### calls of defs -/
end
end Dz
/-! ### loops, comprehensions -/
namespace Dz
open PySem PySem.Spec PyProof.Rows L2 Fz
section
variable {X : Cx} {K : PySem.W.Frag} {G : Gd} {W : WX} {m : List Addr} {S : Store} {H : Hp} {σ : L2.St} {a b e tg : Expr} {es : List Expr} {fa fb : Fe} {fr : Env → Store → Res (List D)} {pos p : Pos} {x : Str}
/-! ### for -/
/-! ### comprehensions -/
end
end Dz
/-! ### raise, try, what is called of an exception -/
namespace Dz
open PySem PySem.Spec PyProof.Rows L2 Fz
section
variable {X : Cx} {K : PySem.W.Frag} {G : Gd} {W : WX} {m : List Addr} {S : Store} {H : Hp} {σ : L2.St} {a b e tg : Expr} {es : List Expr} {fa fb : Fe} {fr : Env → Store → Res (List D)} {pos p : Pos} {x : Str}
/-! try -/
theorem PSs.and {P : Prop} {st : List Stmt} {t : TS} (h : P → PSs X st t) : PSs X st (fun Dn σ H => P ∧ t Dn σ H) := ⟨fun pins s σ H Dn I ⟨j, q⟩ => (h j).run pins s σ H Dn I q⟩
/-! ### a def called of an exception -/
end
end Dz
/-! ### what the printed derivations lean on -/
namespace Dz
open PySem PySem.Spec PyProof.Rows L2 Fz
/-! ### a tuple of the top -/
def eqC : D → Value → Bool
  | .str z, .str y _ => z == y
  | .int i, .int j _ => i == j
  | _, _ => false
def eqCs : List D → List Value → Bool
  | [], [] => true
  | d :: ds, v :: vs => eqC d v && eqCs ds vs
  | _, _ => false
def tupB (K : PySem.W.Frag) (a : Addr) (ds : List D) : Bool := match K.lookup a with
  | some ⟨.type c, none, .seq its _, _⟩ => c == "tuple" && (decide (its.size ≤ sizeLine) && eqCs ds its.toList)
  | _ => false
end Dz
/-! ### keywords in any turn; the law's end -/
/-! ### reasoning about the functions: no program in sight -/
namespace Dz
open PySem L2
/-- it goes well, and Q holds of what comes -/
def Ok {α : Type} (r : Res α) (Q : α → Store → Prop) : Prop := match r with
  | .ok a S => Q a S
  | _ => False
theorem Ok.get {α : Type} {r : Res α} {Q : α → Store → Prop} (h : Ok r Q) : ∃ a S, r = .ok a S ∧ Q a S := by
  cases r with
  | ok a S => exact ⟨a, S, rfl, h⟩
  | exc _ _ _ => exact h.elim
  | bad => exact h.elim
/-! ### stores that go on -/
/-- all but the objects W stay -/
structure Gr (W : List Nat) (S S' : Store) : Prop where
  len : S.length ≤ S'.length
  keep : ∀ i, i < S.length → i ∉ W → S'[i]? = S[i]?
section
variable {W : List Nat} {S S1 S2 : Store} {i l : Nat} {o u : MO}
theorem Gr.trans (a : Gr W S S1) (b : Gr W S1 S2) : Gr W S S2 := ⟨Nat.le_trans a.len b.len, fun i h n => (b.keep i (Nat.lt_of_lt_of_le h a.len) n).trans (a.keep i h n)⟩
theorem Gr.at (g : Gr W S S1) (h : S[i]? = some o) (n : i ∉ W) : S1[i]? = some o := (g.keep i (List.getElem?_eq_some_iff.mp h).1 n).trans h
theorem Gr.set (h : i ∈ W ∨ S.length ≤ i) (g : Gr W S S1) : Gr W S (S1.set i o) := ⟨by rw [List.length_set]; exact g.len, fun j hj nj => by
  rw [List.getElem?_set_ne]
  · exact g.keep j hj nj
  · rintro rfl
    rcases h with h | h
    · exact nj h
    · omega⟩
theorem Gr.sub {W' : List Nat} (g : Gr W S S1) (h : ∀ i ∈ W, i ∈ W') : Gr W' S S1 := ⟨g.len, fun i hi n => g.keep i hi fun z => n (h i z)⟩
theorem Gr.w (g : Gr [] S S1) : Gr W S S1 := g.sub (by simp)
end
/-! ### comprehensions -/
/-! ### loops -/
end Dz
/-! ### step by step -/
namespace Dz
open PySem L2
def OkX {α : Type} (r : Res α) (Q : α → Store → Prop) (E : Str → List (Str × D) → Store → Prop) : Prop := match r with
  | .ok a S => Q a S
  | .exc c fs S => E c fs S
  | .bad => False
section
variable {α β : Type} {r : Res α} {k : α → Store → Res β} {E : Str → List (Str × D) → Store → Prop} {S : Store} {ρ : Env} {P : Po} {d e : D} {fa fb fc : Fe} {t u : Fs} {fr : Env → Store → Res (List D)} {tt uu : Env → Store → Res Bool} {Q : α → Store → Prop} {QB : Bool → Store → Prop} {QD : D → Store → Prop} {QL : List D → Store → Prop}
/-- a promise in the place of a call -/
theorem Ok.x {Q' : α → Store → Prop} (h : Ok r Q') (q : ∀ a S, Q' a S → Q a S) : OkX r Q E := by
  cases r with
  | ok a S => exact q a S h
  | exc _ _ _ => exact h.elim
  | bad => exact h
/-! expressions -/
/-! statements -/
/-! values -/
end
end Dz
/-! ### dict(pairs), dict(d) -/
/-! ### displays of dicts, int(x) -/
/-! ### sorted(x), sorted(set(x)) -/
/-! ### what a call leaves behind and nobody holds is forgotten -/
namespace Dz
open PySem PySem.Spec PyProof.Rows L2 Fz
open Classical in
/-! ### what it comes to -/
end Dz
/-! ### instances of own classes: attributes -/
/-! ### a, *b, c = a tuple -/
/-! ### methods, new instances -/
/-! ### while; dicts walked -/
namespace Dz
open PySem PySem.Spec PyProof.Rows L2 Fz
section
variable {X : Cx} {K : PySem.W.Frag} {G : Gd} {W : WX} {m m' : List Addr} {S S' : Store} {H H' : Hp} {σ : L2.St} {a b e tg c : Expr} {es : List Expr} {fa fb fE : Fe} {pos p apos cpos : Pos} {x : Str} {ρ : Env} {l : Nat} {ad : Addr} {od : Obj} {kvs : List (Key × D)} {ks : List (Key × V)}
/-! the lock -/
/-! keys, values -/
theorem RKV.get {κ : Type} {i : Nat} {kv : κ × D} {kvs : List (κ × D)} {es : List (κ × V)} (h : RKV K m H kvs es) (e : kvs[i]? = some kv) : ∃ v, es[i]? = some (kv.1, v) ∧ RV K m H kv.2 v := by
  induction h generalizing i with
  | nil => simp at e
  | @cons p q ps qs h t ih =>
    cases i with
    | zero =>
      simp at e
      subst e
      obtain ⟨q1, q2⟩ := q
      obtain ⟨z, r⟩ := h
      simp only at z
      subst z
      exact ⟨q2, rfl, r⟩
    | succ i =>
      obtain ⟨v, h1, h2⟩ := ih (i := i) (by simpa using e)
      exact ⟨v, by simpa using h1, h2⟩
end
end Dz
/-! ### the pairs of a dict: plain tuples -/
/-! ### list(d.items()), sorted(d.items()) -/
/-! ### {k: v for .. in ..} -/
/-! ### zip; tables of the top; calls of what a name holds -/
namespace Dz
open PySem PySem.Spec PyProof.Rows L2 Fz
/-! ### tables -/
section
variable {X : Cx} {K : PySem.W.Frag} {G : Gd} {W : WX} {m m' : List Addr} {S S' : Store} {H H' : Hp} {σ : L2.St} {a b e tg c : Expr} {es : List Expr} {fa fb : Fe} {fr : Env → Store → Res (List D)} {pos p tpos : Pos} {x : Str} {ρ : Env} {rows : List (Str × D)}
/-! a call of what a name holds -/
end
end Dz
namespace Dz
open PySem PySem.Spec PyProof.Rows L2 Fz
/-! what is never reached -/
/-! levels -/
/-! facts of the top, as tests -/
end Dz
/-! the head, tables among the facts -/
namespace Fz
open PySem
abbrev TabR : Type := Str × List (Str × Dz.D)
def obsZ (fa : List He.Fa) (fn : List He.DefD) (chk : PySem.W.Frag → Bool) (ts : List TabR) (K : PySem.W.Frag) : (He.AlD × Bool) × List (Option (List (Option (Str × Int)))) := (obsX fa fn chk K, ts.map fun t => He.dicW K (He.ga K t.1))
def valZ (fn : List He.DefD) (ts : List TabR) (w : World) : (He.AlD × Bool) × List (Option (List (Option (Str × Int)))) := ((He.valD fn, true), ts.map fun t => some (He.keysIn w.params (t.2.map (·.1))))
def SaysZ (fa : List He.Fa) (fn : List He.DefD) (chk : PySem.W.Frag → Bool) (ts : List TabR) (w : World) (K : PySem.W.Frag) : Prop := obsZ fa fn chk ts K = valZ fn ts w
section
variable {fa : List He.Fa} {fn : List He.DefD} {chk : PySem.W.Frag → Bool} {ts : List TabR} {w : World} {K : PySem.W.Frag}
theorem SaysZ.d (c : SaysZ fa fn chk ts w K) : He.SaysD fa fn K := congrArg (fun z : (He.AlD × Bool) × List (Option (List (Option (Str × Int)))) => z.1.1) c
theorem SaysZ.c (c : SaysZ fa fn chk ts w K) : chk K = true := congrArg (fun z : (He.AlD × Bool) × List (Option (List (Option (Str × Int)))) => z.1.2) c
end
end Fz
/-! ### sorted(xs), a list of tuples of texts, the empty one perhaps the first -/
/-! ### step lemmas for attributes, methods, tables and the like -/
namespace Dz
open PySem L2
/-! what a dict holds, written or walked -/
end Dz
/-! ### comprehensions whose litter is swept -/
/-! ### the head's fragment, gathered with a mask in place of erased doubles -/
/-! ### x in d.values() -/
/-! ### max(xs, default=d) of whole numbers -/
/-! ### instances made by keywords, or with defaults -/
/-! ### the head's fragment, its addresses told -/
namespace Fz
open PySem
def obsL (as : List Addr) (fa : List He.Fa) (fn : List He.DefD) (chk : PySem.W.Frag → Bool) (ts : List TabR) (g : Addr → Option Obj) : (He.AlD × Bool) × List (Option (List (Option (Str × Int)))) := obsZ fa fn chk ts (He.frG g as)
def hookL (as : List Addr) (fa : List He.Fa) (fn : List He.DefD) (chk : PySem.W.Frag → Bool) (ts : List TabR) : PySem.W.Hook where
  α := (He.AlD × Bool) × List (Option (List (Option (Str × Int))))
  obs := fun s => obsL as fa fn chk ts s.heap.get?
  val := fun w => valZ fn ts w
  says := fun w h => ∃ K : PySem.W.Frag, K.In h ∧ SaysZ fa fn chk ts w K
  of := fun _ _ e => ⟨_, He.frG_in, e⟩
  keeps := fun _ _ _ ⟨K, hK, c⟩ k => ⟨K, PySem.W.Frag.In.keeps hK k, c⟩
end Fz
/-! ### max(xs), a list of pairs of a whole number and a tuple of texts -/
/-! ### sorted(d), a dict whose keys are growing whole numbers -/
namespace Fz
open PySem L2 Dz
def top (i : Nat) : Stmt := PySem.Challenge.pw_farfiles_k02_rights_and_groups_of_any_ki.main.body.getD i (.Pass ⟨0, 0, 0, 0⟩)
abbrev s_law_purse : Stmt := top 12
abbrev s_law_take : Stmt := top 13
abbrev s_law_words : Stmt := top 17
abbrev s_law_folk : Stmt := top 18
abbrev s_law_are_rights : Stmt := top 15
abbrev s_law_is_word : Stmt := top 14
abbrev s_law_are_groups : Stmt := top 16
abbrev s_is_rights : Stmt := top 6
abbrev s_are_growing : Stmt := top 7
abbrev s_is_word : Stmt := top 5
abbrev s_are_users : Stmt := top 8
abbrev s_is_group : Stmt := top 9
abbrev s_is_groups : Stmt := top 10
abbrev s_law_told : Stmt := top 22
abbrev s_law_rights_amiss : Stmt := top 20
abbrev s_law_odd : Stmt := top 19
abbrev s_law_groups_amiss : Stmt := top 21
abbrev s_law : Stmt := top 23
end Fz
noncomputable section
end
namespace Fz
open PySem PySem.Spec PyProof.Rows L2 Dz
def dd_law_purse : He.DefD := ⟨("_law_purse", none), "_law_purse", "_law_purse", defArgs s_law_purse, defBody s_law_purse, defScope s_law_purse, [], []⟩
def dd_law_take : He.DefD := ⟨("_law_take", none), "_law_take", "_law_take", defArgs s_law_take, defBody s_law_take, defScope s_law_take, [], []⟩
def dd_law_words : He.DefD := ⟨("_law_words", none), "_law_words", "_law_words", defArgs s_law_words, defBody s_law_words, defScope s_law_words, [], []⟩
def dd_law_folk : He.DefD := ⟨("_law_folk", none), "_law_folk", "_law_folk", defArgs s_law_folk, defBody s_law_folk, defScope s_law_folk, [], []⟩
def dd_law_are_rights : He.DefD := ⟨("_law_are_rights", none), "_law_are_rights", "_law_are_rights", defArgs s_law_are_rights, defBody s_law_are_rights, defScope s_law_are_rights, [], []⟩
def dd_law_is_word : He.DefD := ⟨("_law_is_word", none), "_law_is_word", "_law_is_word", defArgs s_law_is_word, defBody s_law_is_word, defScope s_law_is_word, [], []⟩
def dd_law_are_groups : He.DefD := ⟨("_law_are_groups", none), "_law_are_groups", "_law_are_groups", defArgs s_law_are_groups, defBody s_law_are_groups, defScope s_law_are_groups, [], []⟩
def dd_is_rights : He.DefD := ⟨("is_rights", none), "is_rights", "is_rights", defArgs s_is_rights, defBody s_is_rights, defScope s_is_rights, [], []⟩
def dd_are_growing : He.DefD := ⟨("are_growing", none), "are_growing", "are_growing", defArgs s_are_growing, defBody s_are_growing, defScope s_are_growing, [], []⟩
def dd_is_word : He.DefD := ⟨("is_word", none), "is_word", "is_word", defArgs s_is_word, defBody s_is_word, defScope s_is_word, [], []⟩
def dd_are_users : He.DefD := ⟨("are_users", none), "are_users", "are_users", defArgs s_are_users, defBody s_are_users, defScope s_are_users, [], []⟩
def dd_is_group : He.DefD := ⟨("is_group", none), "is_group", "is_group", defArgs s_is_group, defBody s_is_group, defScope s_is_group, [], []⟩
def dd_is_groups : He.DefD := ⟨("is_groups", none), "is_groups", "is_groups", defArgs s_is_groups, defBody s_is_groups, defScope s_is_groups, [], []⟩
def dd_law_told : He.DefD := ⟨("_law_told", none), "_law_told", "_law_told", defArgs s_law_told, defBody s_law_told, defScope s_law_told, [], []⟩
def dd_law_rights_amiss : He.DefD := ⟨("_law_rights_amiss", none), "_law_rights_amiss", "_law_rights_amiss", defArgs s_law_rights_amiss, defBody s_law_rights_amiss, defScope s_law_rights_amiss, [], []⟩
def dd_law_odd : He.DefD := ⟨("_law_odd", none), "_law_odd", "_law_odd", defArgs s_law_odd, defBody s_law_odd, defScope s_law_odd, [], []⟩
def dd_law_groups_amiss : He.DefD := ⟨("_law_groups_amiss", none), "_law_groups_amiss", "_law_groups_amiss", defArgs s_law_groups_amiss, defBody s_law_groups_amiss, defScope s_law_groups_amiss, [], []⟩
def dd_law : He.DefD := ⟨("law", none), "law", "law", defArgs s_law, defBody s_law, defScope s_law, [], []⟩
def fnl : List He.DefD := [dd_law_purse, dd_law_take, dd_law_words, dd_law_folk, dd_law_are_rights, dd_law_is_word, dd_law_are_groups, dd_is_rights, dd_are_growing, dd_is_word, dd_are_users, dd_is_group, dd_is_groups, dd_law_told, dd_law_rights_amiss, dd_law_odd, dd_law_groups_amiss, dd_law]
def chk (K : PySem.W.Frag) : Bool := tupB K (He.ga K "GIVEN_RIGHTS") [(.str ""), (.str "r"), (.str "w"), (.str "rw")]
def fal : List He.Fa := [.free "all", .free "bool", .free "isinstance", .free "len", .free "list", .free "max", .free "min", .free "range", .free "repr", .free "set", .free "sorted", .free "str", .free "tuple", .glo "GIVEN_RIGHTS", .str "LETTERS" "abcdefghijklmnopqrstuvwxyz", .int "MOST_GROUPS" 8, .int "MOST_LETTERS" 8, .glo "_law_purse", .glo "_law_take", .glo "_law_words", .glo "_law_folk", .glo "_law_are_rights", .glo "_law_is_word", .glo "_law_are_groups", .glo "is_rights", .glo "are_growing", .glo "is_word", .glo "are_users", .glo "is_group", .glo "is_groups", .glo "_law_told", .glo "_law_rights_amiss", .glo "_law_odd", .glo "_law_groups_amiss", .glo "law"]
def tbs : List TabR := []
abbrev R : PySem.W.OpenRow := PySem.W.OpenLaw.row PySem.Challenge.rw_farfiles_k02_rights_and_groups_of_any_ki
def adl : List Addr := mainGlobals :: cStatics :: [0, 3, 4, 6, 15, 19, 20, 24, 25, 29, 30, 34, 35, 41, 42, 46, 47, 53, 54, 60, 61, 65, 66, 70, 71, 75, 76, 80, 81, 87, 88, 94, 95, 101, 102, 108, 109, 113, 114, 118, 119]
abbrev hk : PySem.W.Hook := hookL adl fal fnl chk tbs
def ob (s : PySem.W.SharedT) := obsL adl fal fnl chk tbs (HandSHeadRun.getT s)
def loose0 : List PySem.Str := ["__name__", "LETTERS", "MOST_LETTERS", "MOST_GROUPS", "GIVEN_RIGHTS", "is_word", "is_rights", "are_growing", "are_users", "is_group", "is_groups", "_law_purse", "_law_take", "_law_is_word", "_law_are_rights", "_law_are_groups", "_law_words", "_law_folk", "_law_odd", "_law_rights_amiss", "_law_groups_amiss", "_law_told"]
def loose : List PySem.Str := loose0
end Fz
namespace Fz
open PySem PySem.W PySem.Calls PySem.Spec PyProof.Rows L2 Dz
abbrev RowG : String := "special-get-raises"
noncomputable abbrev endX (w : World) (os : OsState) := HandSHeadRun.endF (HandSHeadRun.stepQ (HandSHeadRun.denQ HandSHeadRun.tabQ) R.prog w) 40000 R.prog w os
abbrev vwQ : Program := PySem.W.view R.prog [23]
def frX (s : PySem.W.SharedT) : PySem.W.Frag := He.frG (HandSHeadRun.getT s) adl
def obB (s : PySem.W.SharedT) : Bool := (fun K => (fal.all fun f => f.ok K) && fnl.all fun d => d.ok K) (frX s)
def obF (s : PySem.W.SharedT) : List He.FnW := (fun K => fnl.map fun d => He.fnW K d.at_) (frX s)
def obC (s : PySem.W.SharedT) : Bool × List (Option (List (Option (Str × Int)))) := (fun K => (chk K, tbs.map fun t => He.dicW K (He.ga K t.1))) (frX s)
def vlC (w : World) : Bool × List (Option (List (Option (Str × Int)))) := (true, tbs.map fun t => some (He.keysIn w.params (t.2.map (·.1))))
theorem joinO {X : Option PySem.W.SharedT} {w : World} (h1 : X.map obB = some true) (h2 : X.map obF = some (fnl.map He.DefD.val)) (h3 : X.map obC = some (vlC w)) : X.map (fun s => ob s) = some (hk.val w) := by
  cases X with
  | none => cases h1
  | some x =>
    have e1 : obB x = true := Option.some.inj h1
    have e2 : obF x = fnl.map He.DefD.val := Option.some.inj h2
    have e3 : obC x = vlC w := Option.some.inj h3
    have e4 : ob x = (((obB x, obF x), (obC x).1), (obC x).2) := rfl
    show some (ob x) = _
    rw [e4, e1, e2, e3]
    rfl
theorem join4 {α β γ δ : Type} {X : Option α} {f : α → β} {g : α → γ} {k : α → δ} {a : β} {b : γ} {c : δ} (h1 : X.map f = some a) (h2 : X.map g = some b) (h3 : X.map k = some c) : X.map (fun s => (f s, g s, k s)) = some (a, b, c) := by
  cases X with
  | none => cases h1
  | some x =>
    have e1 := Option.some.inj h1
    have e2 := Option.some.inj h2
    have e3 := Option.some.inj h3
    show some (f x, g x, k x) = _
    rw [e1, e2, e3]
set_option maxRecDepth 100000 in
set_option maxHeartbeats 0 in
theorem runfF (w : World) : ∀ os, (endX (w.withFollow RowG false) os).map (fun s => obF s) = some (fnl.map He.DefD.val) := by
  intro os
  kernel_rfl
set_option maxRecDepth 100000 in
set_option maxHeartbeats 0 in
theorem runfB (w : World) : ∀ os, (endX (w.withFollow RowG false) os).map (fun s => obB s) = some true := by
  intro os
  kernel_rfl
set_option maxRecDepth 100000 in
set_option maxHeartbeats 0 in
theorem runfC (w : World) : ∀ os, (endX (w.withFollow RowG false) os).map (fun s => obC s) = some (vlC (w.withFollow RowG false)) := by
  intro os
  kernel_rfl
set_option maxRecDepth 100000 in
set_option maxHeartbeats 0 in
theorem runfL (w : World) : ∀ os, (endX (w.withFollow RowG false) os).map (fun s => HandSHeadRun.looksF R.prog (boot_heap (w.withFollow RowG false).params) s.abs) = some true := by
  intro os
  kernel_rfl
set_option maxRecDepth 100000 in
set_option maxHeartbeats 0 in
theorem runfS (w : World) : ∀ os, (endX (w.withFollow RowG false) os).map (fun s => HandSHeadRun.seenQ vwQ loose (importedModules R.prog.main.body) (fun s => xlAt vwQ [] s && recOk R.toRowW.records s) s.abs) = some (openGood vwQ loose) := by
  intro os
  kernel_rfl
theorem runf (w : World) : HandSHeadRun.RunEq R vwQ hk ob 40000 loose (w.withFollow RowG false) := fun os => join4 (runfL w os) (runfS w os) (joinO (runfB w os) (runfF w os) (runfC w os))
set_option maxRecDepth 100000 in
set_option maxHeartbeats 0 in
theorem runtF (w : World) : ∀ os, (endX (w.withFollow RowG true) os).map (fun s => obF s) = some (fnl.map He.DefD.val) := by
  intro os
  kernel_rfl
set_option maxRecDepth 100000 in
set_option maxHeartbeats 0 in
theorem runtB (w : World) : ∀ os, (endX (w.withFollow RowG true) os).map (fun s => obB s) = some true := by
  intro os
  kernel_rfl
set_option maxRecDepth 100000 in
set_option maxHeartbeats 0 in
theorem runtC (w : World) : ∀ os, (endX (w.withFollow RowG true) os).map (fun s => obC s) = some (vlC (w.withFollow RowG true)) := by
  intro os
  kernel_rfl
set_option maxRecDepth 100000 in
set_option maxHeartbeats 0 in
theorem runtL (w : World) : ∀ os, (endX (w.withFollow RowG true) os).map (fun s => HandSHeadRun.looksF R.prog (boot_heap (w.withFollow RowG true).params) s.abs) = some true := by
  intro os
  kernel_rfl
set_option maxRecDepth 100000 in
set_option maxHeartbeats 0 in
theorem runtS (w : World) : ∀ os, (endX (w.withFollow RowG true) os).map (fun s => HandSHeadRun.seenQ vwQ loose (importedModules R.prog.main.body) (fun s => xlAt vwQ [] s && recOk R.toRowW.records s) s.abs) = some (openGood vwQ loose) := by
  intro os
  kernel_rfl
theorem runt (w : World) : HandSHeadRun.RunEq R vwQ hk ob 40000 loose (w.withFollow RowG true) := fun os => join4 (runtL w os) (runtS w os) (joinO (runtB w os) (runtF w os) (runtC w os))
theorem run (w : World) : HandSHeadRun.RunEq R (PySem.W.view R.prog [23]) hk ob 40000 loose w := PySem.W.byRow2 (P := HandSHeadRun.RunEq R (PySem.W.view R.prog [23]) hk ob 40000 loose) RowG runf runt w

end Fz
/-! ### defs that may ask for repr: the room knows that no repr runs around -/
namespace Fz
open PySem PySem.Spec PyProof.Rows L2
theorem guards_deeper {A : Around} {env : Env} : (A.deeper env).guards = A.guards := by
  first
    | rfl
    | (cases h : A.guards <;> simp [Around.deeper, Around.under, h, Code.guards, Code.isGuard, pushGuards])
theorem RoomG.deeper {k : Nat} {A : Around} (r : RoomG (k + 1) A) (env : Env) : RoomG k (A.deeper env) := ⟨r.toRoom.deeper env, guards_deeper.trans r.gs⟩
section
variable {P : Program} {w : World} {K : PySem.W.Frag} {mg : Str → Option Value} {base : Heap} {CX : CXT} {k : Nat} {f : Addr} {fd : FuncData} {ps : List Str} {sp : Sp}
theorem FnG.imp {sp' : Sp} (F : FnG P w K mg base CX k f fd ps sp) (h : ∀ vs H Q E, sp' vs H Q E → sp vs H Q E) : FnG P w K mg base CX k f fd ps sp' :=
  ⟨fun vs H Q E q => F.len vs H Q E (h _ _ _ _ q), fun A outer s H args us vs Q E hr he hb hv hs => F.run A outer s H args us vs Q E hr he hb hv (h _ _ _ _ hs)⟩
/-- the rule for a def, by its body -/
theorem _root_.L2.FunD.okG {x qual : Str} {params : Arguments} {body : List Stmt} {scope : Scope} {dvs : List V} {kws : List (Str × V)} {N : List Str} (F : FunD K x qual params body scope dvs kws f fd) (S : FnScope N ps scope) (len : ∀ vs H Q E, sp vs H Q E → vs.length = ps.length)
    (hbody : ∀ (cdv : Value) (A : Around) (outer : List Env) (s : Shared) (H : Hp) (vs : List V) (Q : VK) (E : XK), RoomG k (A.deeper (envOfC qual scope s.heap.objs.size f cdv)) → sp vs H Q E →
      ∃ t, PSs (cxOf CX P w K mg base N qual scope f cdv A outer s H E) body t ∧ t { nx := fun _ H' => Q .non H', rt := Q } (start N vs) H) : FnG P w K mg base CX (k + 1) f fd ps sp := by
  obtain ⟨oc, od, dV, kV, doc, pm, an, cdv, ct, osl, rfl, lk, hcd, _, _⟩ := F.ex
  refine ⟨len, fun A outer s H args us vs Q E hr e0 hb r hsp => ?_⟩
  have keep : ∀ b o, base.get? b = some o → s.heap.get? b = some o := fun b o e => (e0.bs b o e).1
  have KX : K.In s.heap := e0.mod.kin.keeps keep
  have hkind : ∀ y ∈ ps.zip us, scope.names.lookup y.1 = some .local ∨ (scope.names.lookup y.1 = some .cell ∧ ((cellsFrom (s.heap.objs.size + 1) scope.names []).lookup y.1).isSome = true) := fun ⟨n, v⟩ hy =>
    (S.par n (List.of_mem_zip hy).1).imp id fun q => ⟨q, PySem.W.cellsFrom_some _ _ _ (.inl q)⟩
  refine codeAny_call_function hr.toRoom.depth (KX _ _ lk) rfl S.co S.gen rfl (PySem.W.codeRec_of KX hcd) (hb _ _ _ _ ?_)
  refine wpAny_newFunctionEnv_cells S.kind hkind fun env he s1 x => ?_
  subst he
  refine ⟨(e0.mod.nolimit.keeps keep).keeps x.toInCall.keep, codeAny_func ?_⟩
  obtain ⟨t, ht, hq⟩ := hbody cdv A outer s H vs Q E (hr.deeper _) hsp
  refine wpAny_mono (ht.run [] s1 (start N vs) H _ (inv_start S hr.hd e0 (len _ _ _ _ hsp) r x) hq) (fun fl s' hs => ?_) fun e s' hs => hs
  cases fl with
  | ret u => obtain ⟨v, σ', H', J, rv, q⟩ := hs; exact ⟨v, H', J.os, J.bare, J.base, J.hok, rv, q⟩
  | next => obtain ⟨σ', H', J, q⟩ := hs; exact ⟨.non, H', J.os, J.bare, J.base, J.hok, rfl, q⟩
  | brk => obtain ⟨_, _, _, q⟩ := hs; exact q.elim
  | cont => obtain ⟨_, _, _, q⟩ := hs; exact q.elim
end
/-! ### calls of such defs -/
/-! ### the law's end -/
theorem law_callG {P : Program} {w : World} {K : PySem.W.Frag} {mg mb : Str → Option Value} {CX : CXT} {k : Nat} {fa a : Addr} {fd : FuncData} {x : Str} {sp : Sp} {s₁ : Shared} {vs : List Value} {ns : List Int}
    (KX : K.In s₁.heap) (hns : s₁.heap.Ns mainGlobals mg) (hb : s₁.heap.Ns builtinsNs mb) (hbb : ∀ x : Str, x ≠ "__name__" → mb x = bootBuiltins x) (hlim : s₁.heap.NoLimit) (hg : s₁.gens = #[])
    (ha : s₁.heap.get? a = some { cls := .type "list", data := .seq vs.toArray }) (hi : IntsAre vs ns) (hl : ns.length ≤ sizeLine) (hr : RoomG k callerA)
    (F : ∀ base : Heap, K.In base → base.Ns mainGlobals mg → FnG P w K mg base CX k fa fd [x] sp) (hbind : ∀ (s : Shared) (u : Value), BindsTo s fd ⟨[u], []⟩ [(x, u)])
    (hsp : ∀ H : Hp, Only H → SqL K H a (ns.map V.int) → sp [.ref a] H (fun v _ => v = .bl true) fun _ _ _ => False)
    (hCX : ∀ H e s', CX [] H s₁ (fun _ _ _ => False) e s' → False) :
    codeAny (model P w) callerA (.call (.ref fa) ⟨[.ref a], []⟩) (fun r s' => r = .ok (.ret (.bool true)) ∧ OldK s₁.heap s'.heap ∧ s'.os = s₁.os ∧ AllBare s'.gens) s₁ := by
  have rv := vals_ints hi
  have core : ∀ H : Hp, Only H → SqL K H a (ns.map V.int) → HOk P w H s₁.heap → (∀ b, H b ≠ none → b = a) → (H a ≠ none → K.lookup a = none) →
      codeAny (model P w) callerA (.call (.ref fa) ⟨[.ref a], []⟩) (fun r s' => r = .ok (.ret (.bool true)) ∧ OldK s₁.heap s'.heap ∧ s'.os = s₁.os ∧ AllBare s'.gens) s₁ := by
    intro H hO hS hok hA hK
    have at_ : ∀ {b : Addr}, H b ≠ none → b = a ∧ K.lookup a = none := fun {b} q => by
      have e := hA b q
      subst e
      exact ⟨rfl, hK q⟩
    have nsK : ∀ {b : Addr} {m : Str → Option Value}, s₁.heap.Ns b m → (hidT s₁.heap H).Ns b m := fun {b m} ⟨o, es, ep, e, d, r⟩ => by
      refine ⟨o, es, ep, hidT_get e ?_, d, r⟩
      refine Classical.byContradiction fun q => ?_
      obtain ⟨rfl, _⟩ := at_ q
      rw [ha] at e
      cases e
      cases (show Data.seq vs.toArray _ = Data.dict es ep from d)
    have hKb : K.In (hidT s₁.heap H) := fun b o e => hidT_get (KX b o e) <| Classical.byContradiction fun q => by
      obtain ⟨rfl, z⟩ := at_ q
      rw [z] at e
      cases e
    have hM : Mod K mg (hidT s₁.heap H) := ⟨hKb, nsK hns, ⟨mb, nsK hb, hbb⟩, let ⟨mc, h1, h2⟩ := hlim; ⟨mc, nsK h1, h2⟩⟩
    have e0 : Env0 P w K mg (hidT s₁.heap H) callerA [] s₁ H := ⟨rfl, hM, fun b o e => of_hidT e, Nat.le_of_eq (hidT_size _ _), trivial, fun b hb => absurd (show b ∈ ([] : List Addr) from hb) (by simp), hok, .of_eq hg⟩
    refine codeAny_mono ((F _ hKb (nsK hns)).run callerA [] s₁ H ⟨[.ref a], []⟩ [.ref a] [.ref a] _ _ hr e0 (hbind s₁ (.ref a)) (.cons rfl .nil) (hsp H hO hS)) fun r s' h => ?_
    cases r with
    | error e => exact (hCX H e s' h).elim
    | ok fl =>
      cases fl with
      | next => exact False.elim h
      | brk => exact False.elim h
      | cont => exact False.elim h
      | ret u =>
        obtain ⟨v, H', os, bare, un, hok', r', q⟩ := h
        cases (show v = .bl true from q)
        cases (show u = Value.bool true from r')
        refine ⟨rfl, OldK.of_keep fun b o e => ?_, os, bare⟩
        rcases hO b with z | ⟨ob, xs, z⟩
        · exact un.keep b o e z (fun z => absurd (show b ∈ ([] : List Addr) from z) (by simp)) (by simp)
        · have e1 := (hok b _ z).1
          have e2 := (hok' b _ (un.frzs b ob _ z)).1
          rw [e] at e1
          cases e1
          exact e2
  cases hk : K.lookup a with
  | some o =>
    have e := KX a o hk
    rw [ha] at e
    cases e
    exact core (fun _ => none) (fun _ => .inl rfl) (.inr ⟨_, vs.toArray, _, hk, rfl, rfl, rfl, by rw [List.size_toArray, hi.length]; exact hl, by simpa using rv⟩) (fun b u z => by cases (show (none : Option HO) = some u from z)) (fun b z => absurd rfl z) fun z => absurd rfl z
  | none =>
    refine core (fun b => if b = a then some (.frz { cls := .type "list", data := .seq vs.toArray } (.lst (ns.map V.int))) else none) (fun b => ?_) (.inl (.inr ⟨{ cls := .type "list", data := .seq vs.toArray }, if_pos rfl⟩)) (fun b u z => ?_) (fun b z => ?_) fun _ => hk
    · by_cases hb : b = a
      · exact .inr ⟨_, _, if_pos hb⟩
      · exact .inl (if_neg hb)
    · by_cases hb : b = a
      · cases (if_pos hb).symm.trans z
        subst hb
        exact ⟨ha, by rw [List.length_map]; exact hl, vs, _, rv, ha⟩
      · cases (if_neg hb).symm.trans z
    · by_cases hb : b = a
      · exact hb
      · exact absurd (if_neg hb) z
end Fz
/-! ### the layer of this work: heaps that go on, defs by name, readings step by step -/
namespace Fz
open PySem L2
section
variable {K : PySem.W.Frag} {H H' H1 H2 : Hp} {a p : Addr} {o : HO} {xs : List V}
theorem lof (h : H a = some (.lst xs)) : SqL K H a xs := .inl (.inl h)
theorem But.tuD {kvs : List (Key × V)} (e : But p H H') (h : H p = some (.dK kvs)) : Tu H H' := Tu.but h (fun z => z) e
end
/-! ### the purse -/
theorem Pur.ne {p q : Addr} {H : Hp} (h : Pur H p) (n : H q = none) : q ≠ p := by
  obtain ⟨a, b, e, _⟩ := h
  exact (ne_of_none e n).symm
/-! ### a def by its name -/
structure Df (P : Program) (w : World) (K : PySem.W.Frag) (mg : Str → Option Value) (base : Heap) (CX : CXT) (k : Nat) (x : Str) (ps : List Str) (sp : Sp) : Prop where
  ex : ∃ fd, FnG P w K mg base CX k (He.ga K x) fd ps sp ∧ Binds K fd ps []
  gl : mg x = some (.ref (He.ga K x))
  kp : PySem.W.keepIn K (.ref (He.ga K x)) = true
end Fz
/-! ### readings, a step at a time: each is the reading's own word, unfolded once -/
namespace Fz
open PySem L2
section
variable {K : PySem.W.Frag} {σ : L2.St} {H : Hp} {Q : VK} {D : Ends} {ta tb tc te : TE} {t u : TS} {tt tu : TT} {v : V} {i j : Nat} {QB : Bool → Hp → Prop} {QA : List V → Hp → Prop} {tA tr : TA} {xs : List V} {a p : Addr}
theorem bt_isinstance : bootBuiltins "isinstance" = some (.builtin "isinstance") := by decide +kernel
theorem bt_len : bootBuiltins "len" = some (.builtin "len") := by decide +kernel
theorem bt_all : bootBuiltins "all" = some (.builtin "all") := by decide +kernel
theorem bt_max : bootBuiltins "max" = some (.builtin "max") := by decide +kernel
theorem bt_min : bootBuiltins "min" = some (.builtin "min") := by decide +kernel
theorem bt_repr : bootBuiltins "repr" = some (.builtin "repr") := by decide +kernel
theorem bt_sorted : bootBuiltins "sorted" = some (.builtin "sorted") := by decide +kernel
theorem bt_str : bootBuiltins "str" = some (.type "str") := by decide +kernel
theorem bt_bool : bootBuiltins "bool" = some (.type "bool") := by decide +kernel
theorem bt_tuple : bootBuiltins "tuple" = some (.type "tuple") := by decide +kernel
theorem bt_list : bootBuiltins "list" = some (.type "list") := by decide +kernel
theorem bt_set : bootBuiltins "set" = some (.type "set") := by decide +kernel
theorem ty_tup {K : PySem.W.Frag} {H : Hp} {p : Addr} {xs : List V} (h : SqT K H p xs) : TyX K H (.ref p) (.type "tuple") := by
  rcases h with (h | ⟨o, h⟩) | ⟨o, _, _, h, c, _⟩
  · exact .base (.tup h)
  · exact .fTuple h
  · exact .kTuple h c
theorem ty_lst {K : PySem.W.Frag} {H : Hp} {p : Addr} {xs : List V} (h : SqL K H p xs) : TyX K H (.ref p) (.type "list") := by
  rcases h with (h | ⟨o, h⟩) | ⟨o, _, _, h, c, _⟩
  · exact .base (.lst h)
  · exact .base (.frz h)
  · exact .kList h c
end
end Fz

/-! ### readings by names, heaps as letters -/
namespace Fz
open PySem PySem.Spec PyProof.Rows L2
def tLstN (t : TA) : TE := fun σ H Q => t σ H fun xs H1 => xs.length ≤ sizeLine ∧ NewQ H1 (.lst xs) Q
def rCatN : R2 := fun x y H Q => ∃ l b xs zs, x = .ref l ∧ y = .ref b ∧ H l = some (.lst xs) ∧ H b = some (.lst zs) ∧ xs.length + zs.length ≤ sizeLine ∧ NewQ H (.lst (xs ++ zs)) Q
def rSlLN (K : PySem.W.Frag) : V → Option Int → Option Int → Hp → VK → Prop := fun x lo hi H Q => ∃ a xs, x = .ref a ∧ SqL K H a xs ∧ NewQ H (.lst (cutV xs lo hi)) Q
def rAppN : V → List V → Hp → VK → Prop := fun x vs H Q => ∃ l xs y, x = .ref l ∧ vs = [y] ∧ H l = some (.lst xs) ∧ xs.length < sizeLine ∧ ∀ H2, But l H H2 → H2 l = some (.lst (xs ++ [y])) → Q .non H2
def rSetN : TSet := fun o i v H Q => ∃ p xs k j, o = .ref p ∧ i = .int k ∧ H p = some (.lst xs) ∧ ixN xs.length k = some j ∧ ∀ H2, But p H H2 → H2 p = some (.lst (xs.set j v)) → Q H2
def cTupT (K : PySem.W.Frag) : List V → Hp → VK → Prop := fun vs H Q => ∃ p ys, vs = [.ref p] ∧ SqT K H p ys ∧ Q (.ref p) H
def cLst (K : PySem.W.Frag) : List V → Hp → VK → Prop := fun vs H Q => ∃ p ys, vs = [.ref p] ∧ (SqL K H p ys ∨ SqT K H p ys) ∧ NewQ H (.lst ys) Q
def cLen (K : PySem.W.Frag) : List V → Hp → VK → Prop := fun vs H Q => ∃ x n, vs = [x] ∧ LenV K x H n ∧ Q (.int n) H
def cMax : List V → Hp → VK → Prop := fun vs H Q => ∃ i j, vs = [.int i, .int j] ∧ Q (.int (if j > i then j else i)) H
def cMin : List V → Hp → VK → Prop := fun vs H Q => ∃ i j, vs = [.int i, .int j] ∧ Q (.int (if j < i then j else i)) H
def rAddS' : R2 := fun x y H Q => ∃ i j, x = .str i ∧ y = .str j ∧ i.length + j.length ≤ sizeLine ∧ Q (.str (i ++ j)) H
section
variable {X : Cx} {es : List Expr} {t : TA} {pos : Pos}
theorem pe_lstN (h : PA X es t) : PE X (.List es pos) (tLstN t) := by
  refine ⟨fun pins s σ H Q I hq => ?_⟩
  refine wpAny_List_spliced (thn (h.run pos pins s σ H _ I hq) fun us s1 ⟨xs, H1, I1, r, z, q⟩ => ⟨by rw [← r.length]; exact z, ?_⟩)
  have hf : H1 s1.heap.objs.size = none := I1.hok.fresh (Nat.le_refl _)
  refine ⟨.ref s1.heap.objs.size, upd H1 s1.heap.objs.size (.lst xs), I1.laid (t' := s1.toks) (fun b u e => Heap.get?_push_of_some _ e) (Nat.le_refl _) ?_, rfl, q.at _ hf⟩
  exact ⟨z, us, 0, r, Heap.get?_push_size _ rfl⟩
theorem OpR.le {f : Value → Value → Sem Value} {r r' : R2} (h : OpR X f r) (m : ∀ x y H Q, r' x y H Q → r x y H Q) : OpR X f r' := fun pins s σ H x y v u Q I rx ry q => h pins s σ H x y v u Q I rx ry (m _ _ _ _ q)
theorem CallR.le {f : Value} {r r' : List V → Hp → VK → Prop} (h : CallR X f r) (m : ∀ vs H Q, r' vs H Q → r vs H Q) : CallR X f r' := fun pins s σ H xs us Q I rx q => h pins s σ H xs us Q I rx (m _ _ _ q)
theorem op_catN : OpR X (binaryOp .Add) rCatN := OpR.le op_cat fun _ _ _ _ ⟨l, b, xs, zs, e1, e2, h1, h2, hz, q⟩ => ⟨l, b, xs, zs, e1, e2, h1, h2, hz, fun p n => q.at p n⟩
theorem sl_listN : SlR X (rSlLN X.K) := fun pins s σ H x v vl vu lo hi sl Q I rx hs pl pu ⟨a, xs, e, h, q⟩ => sl_list pins s σ H x v vl vu lo hi sl Q I rx hs pl pu ⟨a, xs, e, h, fun p n => q.at p n⟩
theorem mt_appN : MtR X "list.append" rAppN := fun pins s σ H x xs v us Q I rx rv ⟨l, ys, y, e1, e2, h, z, q⟩ => mt_append pins s σ H x xs v us Q I rx rv ⟨l, ys, y, e1, e2, h, z, q _ But.set upd_same⟩
theorem set_listN : PSet X rSetN := fun pins s σ H o i v ov iv u Q I r1 r2 r3 ⟨p, xs, k, j, e1, e2, h, hj, q⟩ => set_list pins s σ H o i v ov iv u Q I r1 r2 r3 ⟨p, xs, k, j, e1, e2, h, hj, q _ But.set upd_same⟩
theorem call_tupT' : CallR X (.type "tuple") (cTupT X.K) := CallR.le call_tuple_of fun _ _ _ ⟨p, ys, e, h, q⟩ => ⟨p, ys, e, .inr ⟨h, q⟩⟩
theorem call_lstN : CallR X (.type "list") (cLst X.K) := CallR.le call_list_of fun _ _ _ ⟨p, ys, e, h, q⟩ => ⟨p, ys, e, h, fun l n => q.at l n⟩
theorem call_lenN : CallR X (.builtin "len") (cLen X.K) := call_len
theorem call_maxN (hc : X.calm = true) : CallR X (.builtin "max") cMax := call_max2 hc
theorem call_minN (hc : X.calm = true) : CallR X (.builtin "min") cMin := call_min2 hc
theorem op_addSN : OpR X (binaryOp .Add) rAddS' := op_add_str
end
end Fz
/-! ### the rules with the written part named -/
namespace Fz
open PySem PySem.Spec PyProof.Rows L2
section
variable {X : Cx} {K : PySem.W.Frag} (e : X.K = K)
include e
theorem k_len : CallR X (.builtin "len") (cLen K) := e ▸ call_lenN
theorem k_isi : CallR X (.builtin "isinstance") (rIsi K) := e ▸ call_isi
theorem k_all (hc : X.calm = true) : CallR X (.builtin "all") (rAll K) := e ▸ cr_all hc
theorem k_tupleT : CallR X (.type "tuple") (cTupT K) := e ▸ call_tupT'
theorem k_list : CallR X (.type "list") (cLst K) := e ▸ call_lstN
theorem k_ixL : IxR X (rIxL K) := e ▸ ix_list
theorem k_ixT : IxR X (rIxT K) := e ▸ ix_tup
theorem k_slL : SlR X (rSlLN K) := e ▸ sl_listN
theorem k_eqD (hu : X.A.units + 64 < cLine) : OpR X (compareOp .Eq) (rEqD K) := e ▸ op_eqD hu
theorem k_neD (hu : X.A.units + 64 < cLine) : OpR X (compareOp .NotEq) (rNeD K) := e ▸ op_neD hu
theorem k_ilist {tg l : Expr} {tl : TE} (hl : PE X l tl) : PI X tg l (iList K tl) := e ▸ pi_list hl
theorem k_itup {tg l : Expr} {tl : TE} (hl : PE X l tl) : PI X tg l (iTup K tl) := e ▸ pi_tup hl
theorem k_gtup {es : List Expr} {k : Nat} {t : TGs} {n : Nat} {pos : Pos} (hc : X.calm = true) (h : PGs X es t)
    (hn : (assignEach es X.env).length = n := by rfl) (hst : (assignEach es X.env).findIdx? (·.1) = none := by rfl) : PG X (.Tuple es k pos) (gTup K n t) := e ▸ pg_tup hc h hn hst
theorem k_bm {T id : String} {name : Str} {o ee : Expr} {es : List Expr} {apos cpos : Pos} {r : V → List V → Hp → VK → Prop} {to : TE} {t : TA} (pa : PlainAttrs T) (slot : Slot T name id) (hty : typeOf (.builtin id) = pure (.type "method_descriptor")) (hm : MtR X id r) (ho : PE X o to) (ha : PA X (ee :: es) t)
    (hbase : attributeBase o name X.env (eval o X.env) = eval o X.env := by rfl)
    (hfew : ((backTo cpos (starEach (ee :: es) X.env)).all (fun x => !x.1) && (backToKw cpos (keywordEach [] X.env)).all (fun x => x.1.isSome)
      && decide ((ee :: es).length + ([] : List Keyword).length + (if ([] : List Keyword).isEmpty then 0 else 1) < 30)) = true := by rfl)
    (hline : (apos.endLine == cpos.line) = true := by rfl) (hs : starEach (ee :: es) X.env = (false, eval ee X.env) :: starEach es X.env := by rfl) (hplain : (backTo cpos (starEach es X.env)).any (·.1) = false := by rfl) :
    PE X (.Call (.Attribute o name apos) (ee :: es) [] cpos) (tBM K T r to t) := e ▸ pe_bm pa slot hty hm ho ha hbase hfew hline hs hplain
end
end Fz
/-! ### comprehensions: what each element is, of which every heap that goes on tells the same -/
namespace Fz
open PySem L2
section
variable {K : PySem.W.Frag} {σ : L2.St} {H : Hp} {Q : VK} {te tl : TE} {g : TG} {vs : List Nat} {a p : Addr} {xs : List V}
theorem LcT.snoc {T : Nat → V → Hp → Prop} {n : Nat} {acc : List V} {H : Hp} {v : V} (h : LcT T n acc H) (t : T n v H) : LcT T (n + 1) (acc ++ [v]) H := by
  refine ⟨by simp [h.1], fun j w e => ?_⟩
  by_cases hj : j < acc.length
  · rw [List.getElem?_append_left hj] at e
    exact h.2 j w e
  · rw [List.getElem?_append_right (by omega)] at e
    have hz : j - acc.length = 0 := by
      cases q : j - acc.length with
      | zero => rfl
      | succ m => rw [q] at e; simp at e
    have : j = n := by have := h.1; omega
    rw [hz] at e
    simp at e
    subst e this
    exact t
/-- the state of a comprehension that changes nothing -/
def LcS (H : Hp) (D : Addr) (T : Nat → V → Hp → Prop) (i : Nat) (H' : Hp) : Prop := ∃ acc, H' D = some (.lst acc) ∧ Same H H' ∧ LcT T i acc H'
theorem LcS.start {D : Addr} {T : Nat → V → Hp → Prop} (n : H D = none) : LcS H D T 0 (upd H D (.lst [])) := ⟨[], upd_same, new_same n, LcT.nil⟩
theorem LcS.turn {D : Addr} {T : Nat → V → Hp → Prop} (m : Mon T) (n : H D = none) {i : Nat} {H' : Hp} (h : LcS H D T i H') (hi : i ≤ 100000) {H2 : Hp} {v : V} (s : Same H' H2) (t : T i v H2) :
    ∃ acc, H2 D = some (.lst acc) ∧ acc.length < sizeLine ∧ LcS H D T (i + 1) (upd H2 D (.lst (acc ++ [v]))) := by
  obtain ⟨acc, h1, h2, h3⟩ := h
  have e := s _ _ h1
  have hl := h3.1
  refine ⟨acc, e, Nat.lt_of_le_of_lt (by omega : acc.length ≤ 100000) (by decide), acc ++ [v], upd_same, ?_, ?_⟩
  · exact fun b o q => by rw [upd_ne (ne_of_none q n)]; exact s _ _ (h2 b o q)
  · exact ((h3.mono m (.of s)).snoc t).mono m (Tu.set e _)
/-- .. one that draws from the purse -/
def LcG (p : Addr) (H : Hp) (D : Addr) (T : Nat → V → Hp → Prop) (i : Nat) (H' : Hp) : Prop := ∃ acc, H' D = some (.lst acc) ∧ Go p H H' ∧ LcT T i acc H'
theorem LcG.start {D : Addr} {T : Nat → V → Hp → Prop} (q : Pur H p) (n : H D = none) : LcG p H D T 0 (upd H D (.lst [])) := ⟨[], upd_same, Go.of q (new_same n), LcT.nil⟩
theorem go_set {p D : Addr} {H H' : Hp} {ys : List V} (q : Pur H p) (n : H D = none) (h : Go p H H') (e : H' D = some (.lst ys)) (zs : List V) : Go p H (upd H' D (.lst zs)) := by
  have nd : D ≠ p := q.ne n
  refine ⟨fun b o r nb => ?_, fun b o r nb => ?_, ?_⟩
  · rw [upd_ne (ne_of_none r n)]; exact h.keep b o r nb
  · rw [upd_ne (ne_of_none r n)]; exact h.tu b o r nb
  · obtain ⟨a, b, r, z⟩ := h.pur
    exact ⟨a, b, by rw [upd_ne nd.symm]; exact r, z⟩
theorem LcG.turn {D : Addr} {T : Nat → V → Hp → Prop} (m : Mon T) (q : Pur H p) (n : H D = none) {i : Nat} {H' : Hp} (h : LcG p H D T i H') (hi : i ≤ 100000) {H2 : Hp} {v : V} (s : Go p H' H2) (t : T i v H2) :
    ∃ acc, H2 D = some (.lst acc) ∧ acc.length < sizeLine ∧ LcG p H D T (i + 1) (upd H2 D (.lst (acc ++ [v]))) := by
  obtain ⟨acc, h1, h2, h3⟩ := h
  have e := s.keep _ _ h1 (q.ne n)
  have hl := h3.1
  refine ⟨acc, e, Nat.lt_of_le_of_lt (by omega : acc.length ≤ 100000) (by decide), acc ++ [v], upd_same, ?_, ?_⟩
  · exact go_set q n (h2.trans s) e _
  · exact ((h3.mono m s.tu).snoc t).mono m (Tu.set e _)
end
theorem paired_len {α β : Type} {F : α → β → Prop} {l₁ : List α} {l₂ : List β} (h : Paired F l₁ l₂) : l₁.length = l₂.length := Paired.length h
theorem paired_append {α β : Type} {F : α → β → Prop} : ∀ {a b : List α} {c d : List β}, Paired F a c → Paired F b d → Paired F (a ++ b) (c ++ d)
  | _, _, _, _, .nil, s => s
  | _, _, _, _, .cons r t, s => .cons r (paired_append t s)
end Fz

/-! ### a comprehension whose source is read first -/
namespace Fz
open PySem L2
theorem sz {n : Nat} (h : n ≤ 100000) : n ≤ sizeLine := Nat.le_trans h (by decide)
end Fz
/-! ### calls with keywords, and where defaults fill up -/
namespace Fz
open PySem PySem.Spec PyProof.Rows L2
structure Dx (P : Program) (w : World) (K : PySem.W.Frag) (mg : Str → Option Value) (base : Heap) (CX : CXT) (k : Nat) (x : Str) (ps : List Str) (sp : Sp) (fd : FuncData) : Prop where
  ok : FnG P w K mg base CX k (He.ga K x) fd ps sp
  gl : mg x = some (.ref (He.ga K x))
  kp : PySem.W.keepIn K (.ref (He.ga K x)) = true
/-- no defaults but keyword-only ones: all keywords are written -/
theorem kbn_of {K : PySem.W.Frag} {x qual : Str} {params : Arguments} {body : List Stmt} {scope : Scope} {kws : List (Str × V)} {f : Addr} {fd : FuncData} {ps : List Str} (F : FunD K x qual params body scope [] kws f fd) (n : Nat) (ks : List Str) (g : {α : Type} → List α → List α → List α)
    (hrel : ∀ {vs zs : List V} {us ws : List Value}, Vals vs us → Vals zs ws → Vals (g vs zs) (g us ws))
    (h : ∀ (kV doc pm : Value) (an : Option Addr) (cdv ct : Value) (us ws : List Value), us.length = n → ws.length = ks.length → bindArgs (PySem.W.fnOf x qual params body scope .none kV doc pm an cdv ct) ⟨us, ks.zip ws⟩ = pure (ps.zip (g us ws))) :
    ∃ g', KBn K fd ps n ks g' (fun vs zs => g vs zs) := by
  obtain ⟨oc, od, dV, kV, doc, pm, an, cdv, ct, osl, rfl, lk, hcd, hD, hK⟩ := F.ex
  rcases hD with ⟨_, rfl⟩ | ⟨e, _⟩
  · exact ⟨fun us ws => g us ws, fun s us ws _ l1 l2 => .of_eq (h kV doc pm an cdv ct us ws l1 l2), fun r1 r2 => hrel r1 r2⟩
  · exact absurd rfl e
end Fz
/-! ### dicts, tuples cut and put behind a list -/
namespace Fz
open PySem PySem.Spec PyProof.Rows L2
theorem PE.le {X : Cx} {e : Expr} {t t' : TE} (h : PE X e t) (m : ∀ σ H Q, t' σ H Q → t σ H Q) : PE X e t' := ⟨fun pins s σ H Q I q => h.run pins s σ H Q I (m _ _ _ q)⟩
def tDNewN : TE := fun _ H Q => NewQ H (.dK []) Q
theorem pe_dnewN {X : Cx} {pos : Pos} : PE X (.Dict [] [] pos) tDNewN := PE.le pe_dnewK fun _ _ _ h p n => NewQ.at h p n
def cLenD : List V → Hp → VK → Prop := fun xs H Q => ∃ a kvs, xs = [V.ref a] ∧ H a = some (.dK kvs) ∧ Q (.int kvs.length) H
theorem call_lenDN {X : Cx} : CallR X (.builtin "len") cLenD := call_lenD
def cListD : List V → Hp → VK → Prop := fun xs H Q => ∃ (a : Addr) (kvs : List (Key × V)), xs = [.ref a] ∧ Rd H a (.dK kvs) ∧ NewQ H (.lst (kvs.map fun kv => kV kv.1)) Q
theorem call_listDN {X : Cx} (hc : X.calm = true) : CallR X (.type "list") cListD := CallR.le (call_listD hc) fun _ _ _ ⟨a, kvs, e, h, q⟩ => ⟨a, kvs, e, h, fun p n => q.at p n⟩
theorem k_revL {X : Cx} {K : PySem.W.Frag} (e : X.K = K) {ee : Expr} {te : TE} {k : Nat} {p1 p2 p3 pos : Pos} (he : PE X ee te) : PE X (.Subscript ee (.Slice none none (some (.UnaryOp .USub (.Constant (.int 1) k p1) p2)) p3) pos) (tRevL K te) := e ▸ pe_revL he
end Fz
/-! ### data of any kind, as they stand in the heap (p: the purse is no part of them); their texts -/
namespace Fz
open PySem PySem.Spec PyProof.Rows L2
section
variable {K : PySem.W.Frag} {p : Addr} {H H' : Hp}
theorem DqAll.paired : ∀ {xs : List V} {ds : List PyData}, DqAll K p H xs ds → Paired (Dq K p H) xs ds
  | _, _, .nil => .nil
  | _, _, .cons r t => .cons r t.paired
theorem Dq.go {v : V} {d : PyData} (g : Go p H H') (h : Dq K p H v d) : Dq K p H' v d := h.keep g.keep g.tu
theorem Dq.same {v : V} {d : PyData} (h : Dq K p H v d) (g : Same H H') : Dq K p H' v d := h.keep (.of g) (.of g)
end
/-! what is well to show; k: no dict within (true), no list within (false) -/
mutual
def good (k : Bool) : PyData → Bool
  | .none | .bool _ => true
  | .int i => decide (i.natAbs.log2 < 1920)
  | .str x => x.cps.toList.all fun c => decide (c < 16 ^ 8)
  | .list xs => k && goodAll k xs
  | .tuple xs => goodAll k xs
  | .dict kvs => !k && goodKv k kvs
def goodAll (k : Bool) : List PyData → Bool
  | [] => true
  | x :: xs => good k x && goodAll k xs
def goodKv (k : Bool) : List (PyData × PyData) → Bool
  | [] => true
  | (a, b) :: r => good k a && good k b && goodKv k r
end
mutual
def wt : PyData → Nat
  | .none | .bool _ => 5
  | .int i => (toString i : Str).length
  | .str x => 10 * x.length + 2
  | .list xs | .tuple xs => 3 + wtAll xs
  | .dict kvs => 3 + wtKv kvs
def wtAll : List PyData → Nat
  | [] => 0
  | x :: xs => wt x + 2 + wtAll xs
def wtKv : List (PyData × PyData) → Nat
  | [] => 0
  | (a, b) :: r => wt a + wt b + 4 + wtKv r
end
mutual
theorem good_show {k : Bool} : ∀ d : PyData, good k d = true → d.showable = true
  | .none, _ => by simp only [PyData.showable]
  | .bool _, _ => by simp only [PyData.showable]
  | .int i, h => by simpa only [good, PyData.showable] using h
  | .str x, _ => by simp only [PyData.showable]
  | .list xs, h => by
    simp only [good, Bool.and_eq_true] at h
    simp only [PyData.showable]
    exact good_showAll xs h.2
  | .tuple xs, h => by
    simp only [good] at h
    simp only [PyData.showable]
    exact good_showAll xs h
  | .dict kvs, h => by
    simp only [good, Bool.and_eq_true] at h
    simp only [PyData.showable]
    exact good_showKv kvs h.2
theorem good_showAll {k : Bool} : ∀ xs : List PyData, goodAll k xs = true → PyData.showableAll xs = true
  | [], _ => by simp only [PyData.showableAll]
  | x :: xs, h => by
    simp only [goodAll, Bool.and_eq_true] at h
    simp only [PyData.showableAll, Bool.and_eq_true]
    exact ⟨good_show x h.1, good_showAll xs h.2⟩
theorem good_showKv {k : Bool} : ∀ xs : List (PyData × PyData), goodKv k xs = true → PyData.showableKv xs = true
  | [], _ => by simp only [PyData.showableKv]
  | (a, b) :: r, h => by
    simp only [goodKv, Bool.and_eq_true] at h
    simp only [PyData.showableKv, Bool.and_eq_true]
    exact ⟨⟨good_show a h.1.1, good_show b h.1.2⟩, good_showKv r h.2⟩
end
mutual
theorem good_nodict : ∀ d : PyData, good true d = true → d.hasDict = false
  | .none, _ => by simp only [PyData.hasDict]
  | .bool _, _ => by simp only [PyData.hasDict]
  | .int _, _ => by simp only [PyData.hasDict]
  | .str _, _ => by simp only [PyData.hasDict]
  | .list xs, h => by
    simp only [good, Bool.and_eq_true] at h
    simp only [PyData.hasDict]
    exact good_nodictAll xs h.2
  | .tuple xs, h => by
    simp only [good] at h
    simp only [PyData.hasDict]
    exact good_nodictAll xs h
  | .dict kvs, h => by simp [good] at h
theorem good_nodictAll : ∀ xs : List PyData, goodAll true xs = true → PyData.hasDictAll xs = false
  | [], _ => by simp only [PyData.hasDictAll]
  | x :: xs, h => by
    simp only [goodAll, Bool.and_eq_true] at h
    simp only [PyData.hasDictAll, good_nodict x h.1, good_nodictAll xs h.2, Bool.or_false]
end
theorem join_piled (ts : List Str) : (Str.join ", " ts).length ≤ piled ts := by
  cases ts with
  | nil => exact Nat.le_refl _
  | cons t r =>
    have := join_length_add (t :: r) (by simp)
    omega
theorem listText_le (ts : List Str) : (listText ts).length ≤ 3 + piled ts := by
  have e : (listText ts).length = (textFrom 0 "[" ts).length + 1 := by
    show (textFrom 0 "[" ts ++ "]").length = _
    rw [strLen_append]
    rfl
  rw [e]
  cases ts with
  | nil =>
    show (("[" : Str)).length + 1 ≤ _
    have : (("[" : Str)).length = 1 := rfl
    omega
  | cons t r =>
    have h := textFrom_length_pos r 1 (("[" : Str) ++ ("" : String) ++ t) (by decide)
    have e2 : (textFrom 0 "[" (t :: r)).length = (textFrom 1 (("[" : Str) ++ ("" : String) ++ t) r).length := rfl
    rw [e2, h, strLen_append, strLen_append, piled_cons]
    have h1 : (("[" : Str)).length = 1 := rfl
    have h2 : (Str.ofString ("" : String)).length = 0 := rfl
    omega
theorem tupleText_le (ts : List Str) : (tupleText ts).length ≤ 3 + piled ts := by
  unfold tupleText
  rw [strLen_append, strLen_append]
  have h1 : (("(" : Str)).length = 1 := rfl
  have h2 := join_piled ts
  have h3 : (Str.ofString (if ts.length == 1 then ",)" else ")" : String)).length ≤ 2 := by
    split
    · exact Nat.le_refl 2
    · exact Nat.le_succ 1
  omega
theorem dictText_le (ts : List Str) : (dictText ts).length ≤ 3 + piled ts := by
  unfold dictText
  rw [strLen_append, strLen_append]
  have h1 : (("{" : Str)).length = 1 := rfl
  have h2 := join_piled ts
  have h3 : (("}" : Str)).length = 1 := rfl
  omega
mutual
theorem shown_wt {k : Bool} : ∀ d : PyData, good k d = true → d.shown.length ≤ wt d
  | .none, _ => by simp only [PyData.shown, wt]; decide
  | .bool b, _ => by
    simp only [PyData.shown, wt]
    cases b <;> decide
  | .int i, _ => by simp only [PyData.shown, wt]; exact Nat.le_refl _
  | .str x, h => by
    simp only [good, List.all_eq_true, decide_eq_true_eq] at h
    simp only [PyData.shown, wt]
    exact StrLaws.reprText_len x h
  | .list xs, h => by
    simp only [good, Bool.and_eq_true] at h
    simp only [PyData.shown, wt]
    exact Nat.le_trans (listText_le _) (Nat.add_le_add_left (shown_wtAll xs h.2) 3)
  | .tuple xs, h => by
    simp only [good] at h
    simp only [PyData.shown, wt]
    exact Nat.le_trans (tupleText_le _) (Nat.add_le_add_left (shown_wtAll xs h) 3)
  | .dict kvs, h => by
    simp only [good, Bool.and_eq_true] at h
    simp only [PyData.shown, wt]
    exact Nat.le_trans (dictText_le _) (Nat.add_le_add_left (shown_wtKv kvs h.2) 3)
theorem shown_wtAll {k : Bool} : ∀ xs : List PyData, goodAll k xs = true → piled (PyData.shownAll xs) ≤ wtAll xs
  | [], _ => by simp only [PyData.shownAll, wtAll]; exact Nat.le_refl _
  | x :: xs, h => by
    simp only [goodAll, Bool.and_eq_true] at h
    simp only [PyData.shownAll, wtAll, piled_cons]
    have h1 := shown_wt x h.1
    have h2 := shown_wtAll xs h.2
    omega
theorem shown_wtKv {k : Bool} : ∀ xs : List (PyData × PyData), goodKv k xs = true → piled (PyData.shownKv xs) ≤ wtKv xs
  | [], _ => by simp only [PyData.shownKv, wtKv]; exact Nat.le_refl _
  | (a, b) :: r, h => by
    simp only [goodKv, Bool.and_eq_true] at h
    simp only [PyData.shownKv, wtKv, piled_cons, strLen_append]
    have h1 := shown_wt a h.1.1
    have h2 := shown_wt b h.1.2
    have h3 := shown_wtKv r h.2
    have h4 : ((": " : Str)).length = 2 := rfl
    omega
end
end Fz
/-! ### the text of data by repr -/
namespace Fz
open PySem PySem.Spec PyProof.Rows L2
section
variable {X : Cx} {pins : List (Addr × Obj)} {σ : L2.St} {H : Hp} {s : Shared} {p : Addr}
theorem pairs_keys {w : World} {P : Program} {h : Heap} : ∀ {es : List DictEntry} {vs : List (Key × Value)} {kvs : List (Key × V)}, Pairs (mixKind P w) es vs → KV kvs vs → Vals (kvs.map (·.2)) (es.map (·.val)) ∧ ReadsAll h (es.map (·.key)) (kvs.map fun e => kD e.1) []
  | _, _, _, .nil, .nil => ⟨.nil, .nil⟩
  | _, _, _, .cons (e := e) (kv := kv) h1 e1 t1, .cons (a := q) (l₁ := ks) h2 t2 => by
    obtain ⟨r, z⟩ := pairs_keys (h := h) t1 t2
    obtain ⟨k1, k2⟩ := h2
    refine ⟨.cons (by show RelV q.2 e.val; rw [e1]; exact k2) r, ?_⟩
    have h1 : keyIs kv.1 e.key = true := h1
    rw [← k1] at h1
    obtain ⟨qk, qv⟩ := q
    show ReadsAll h (e.key :: _) (kD qk :: _) ([] ++ [])
    refine .cons ?_ z
    rcases keyIs_shape h1 with ⟨i, t, e2, e3⟩ | ⟨x, t, e2, e3⟩
    · rw [e3]
      simp only at e2
      rw [e2]
      exact .int i t
    · rw [e3]
      simp only at e2
      rw [e2]
      exact .str x t
theorem zip_fst {α β : Type} : ∀ {l : List α} {m : List β}, l.length = m.length → (l.zip m).map (·.1) = l
  | [], [], _ => rfl
  | _ :: l, _ :: m, h => by simp [zip_fst (l := l) (m := m) (by simpa using h)]
theorem zip_snd {α β : Type} : ∀ {l : List α} {m : List β}, l.length = m.length → (l.zip m).map (·.2) = m
  | [], [], _ => rfl
  | _ :: l, _ :: m, h => by simp [zip_snd (l := l) (m := m) (by simpa using h)]
theorem goodKv_vals {k : Bool} : ∀ {l m : List PyData}, l.length = m.length → goodKv k (l.zip m) = true → goodAll k m = true
  | [], [], _, _ => by simp only [goodAll]
  | _ :: l, _ :: m, h, g => by
    simp only [List.zip_cons_cons, goodKv, Bool.and_eq_true] at g
    simp only [goodAll, Bool.and_eq_true]
    exact ⟨g.1.2, goodKv_vals (l := l) (m := m) (by simpa using h) g.2⟩
mutual
theorem Dq.reads (I : Inv X pins σ H s) : ∀ {v : V} {d : PyData} {u : Value}, Dq X.K p H v d → RelV v u → ∃ as, Reads s.heap u d as ∧ (good false d = true → sysModules ∉ as)
  | _, _, u, .non, r => by
    cases (show u = Value.none from r)
    exact ⟨_, .none, by simp⟩
  | _, _, u, .bl b, r => by
    cases (show u = Value.bool b from r)
    exact ⟨_, .bool b, by simp⟩
  | _, _, u, .int i, r => by
    obtain ⟨t, rfl⟩ := (show ∃ t, u = Value.int i t from r)
    exact ⟨_, .int i t, by simp⟩
  | _, _, u, .str x, r => by
    obtain ⟨t, rfl⟩ := (show ∃ t, u = Value.str x t from r)
    exact ⟨_, .str x t, by simp⟩
  | _, _, u, .lst (a := a) (ds := ds) _ h q, r => by
    cases (show u = Value.ref a from r)
    obtain ⟨its, rv, ⟨o, n, h1, h2, _, h3⟩, _⟩ := I.list h
    obtain ⟨as, e, _⟩ := DqAll.reads I q rv
    exact ⟨_, .list h1 h2 h3 (by simpa using e), fun g => by simp [good] at g⟩
  | _, _, u, .tup (a := a) (ds := ds) h q, r => by
    cases (show u = Value.ref a from r)
    obtain ⟨its, rv, ⟨o, h1, h2, n, h3⟩, _⟩ := I.tuple h
    obtain ⟨as, e, g⟩ := DqAll.reads I q rv
    exact ⟨_, .tuple h1 h2 h3 (by simpa using e), fun z => g (by simpa only [good] using z)⟩
  | _, _, u, .dct (a := a) (es := es) (ds := ds) _ h q, r => by
    cases (show u = Value.ref a from r)
    obtain ⟨_, hsm, vs, kv, o, ee, ep, h1, h2, h3, _, h5, _⟩ := (show ObjOk X.prog X.w H s.heap a (.dK es) from I.hok a _ h)
    obtain ⟨rv, rk⟩ := pairs_keys (h := s.heap) h5 kv
    obtain ⟨as, e, g⟩ := DqAll.reads I q rv
    have hl : (es.map fun e => kD e.1).length = ds.length := by
      have := paired_len q.paired
      simpa using this
    refine ⟨a :: [] ++ as, .dict h1 h2.1 h3 (by rw [zip_fst hl]; exact rk) (by rw [zip_snd hl]; exact e), fun z hm => ?_⟩
    simp only [good, Bool.and_eq_true] at z
    rcases List.mem_cons.mp (show sysModules ∈ a :: as from hm) with e1 | e1
    · rw [← e1] at hsm
      simp at hsm
    · exact g (goodKv_vals hl z.2) e1
theorem DqAll.reads (I : Inv X pins σ H s) : ∀ {xs : List V} {ds : List PyData} {us : List Value}, DqAll X.K p H xs ds → Vals xs us → ∃ as, ReadsAll s.heap us ds as ∧ (goodAll false ds = true → sysModules ∉ as)
  | _, _, _, .nil, .nil => ⟨_, .nil, by simp⟩
  | _, _, _, .cons a q, .cons r rr => by
    obtain ⟨as, e1, g1⟩ := Dq.reads I a r
    obtain ⟨bs, e2, g2⟩ := DqAll.reads I q rr
    refine ⟨_, .cons e1 e2, fun z hm => ?_⟩
    simp only [goodAll, Bool.and_eq_true] at z
    rcases List.mem_append.mp hm with h | h
    · exact g1 z.1 h
    · exact g2 z.2 h
end
/-- repr(x): the text of the data -/
def rRepr (K : PySem.W.Frag) : List V → Hp → VK → Prop := fun xs H Q => ∃ p v d k, xs = [v] ∧ Dq K p H v d ∧ good k d = true ∧ wt d ≤ 1000000 ∧ d.depth ≤ 60 ∧ Q (.str d.shown) H
theorem call_reprD (hg : X.A.guards = some []) (hu : X.A.units + 64 < cLine) : CallR X (.builtin "repr") (rRepr X.K) := by
  intro pins s σ H xs us Q I r h
  obtain ⟨p, v, d, k, rfl, hd, hk, hw, hdp, q⟩ := h
  obtain ⟨u, rfl, ru⟩ := r.one
  obtain ⟨as, rd, hsm⟩ := hd.reads I ru
  have hsz : d.shown.length ≤ sizeLine := by
    have := shown_wt d hk
    have e := sizeLine_eq
    omega
  have hs := good_show d hk
  have fin : ∀ {t : Tok} {h' : Heap} {tk : Nat}, (∀ b o, s.heap.get? b = some o → h'.get? b = some o) → EP X pins σ Q (.str d.shown t) { s with heap := h', toks := tk } := fun kp => ⟨.str d.shown, H, I.kept kp, ⟨_, rfl⟩, q⟩
  have sm : d.hasDict = true → sysModules ∉ as := fun z => by
    cases k with
    | true => rw [good_nodict d hk] at z; cases z
    | false => exact hsm hk
  cases rd with
  | none => exact P.repr_of_none (fin fun _ _ e => e)
  | bool b => exact P.repr_of_bool (fin fun _ _ e => e)
  | int i t => exact P.repr_of_int (by simpa [PyData.showable] using hs) (fin fun _ _ e => e)
  | str x t => exact P.repr_of_str (fin fun _ _ e => e) (by simpa only [PyData.shown] using hsz)
  | list h1 h2 h3 h4 => exact repr_of_reads' (.list h1 h2 h3 h4) hs sm hg (by omega) (fun _ _ e => e) (fun h' u tk kp => fin kp) hsz
  | tuple h1 h2 h3 h4 => exact repr_of_reads' (.tuple h1 h2 h3 h4) hs sm hg (by omega) (fun _ _ e => e) (fun h' u tk kp => fin kp) hsz
  | dict h1 h2 h3 h4 h5 => exact repr_of_reads' (.dict h1 h2 h3 h4 h5) hs sm hg (by omega) (fun _ _ e => e) (fun h' u tk kp => fin kp) hsz
end
end Fz
/-! ### texts, constants of the module, displays of dicts, calls by keywords alone -/
namespace Fz
open PySem PySem.Spec PyProof.Rows L2
section
variable {X : Cx} {x : Str} {pos : Pos}
theorem pe_gi {i : Int} (hg : Gl X x) (h : ∃ t, X.mg x = some (.int i t)) (hd : (x == ("__debug__" : Str)) = false := by decide) : PE X (.Name x pos) (tC (.int i)) := let ⟨t, e⟩ := h; pe_glob hg e ⟨t, rfl⟩ hd
theorem pe_gs {z : Str} (hg : Gl X x) (h : ∃ t, X.mg x = some (.str z t)) (hd : (x == ("__debug__" : Str)) = false := by decide) : PE X (.Name x pos) (tC (.str z)) := let ⟨t, e⟩ := h; pe_glob hg e ⟨t, rfl⟩ hd
def inS (i j : Str) : Bool := !(Builtin.Str.occurrences j i 0 j.length 1).isEmpty
def rInS : R2 := fun x y H Q => ∃ i j, x = .str i ∧ y = .str j ∧ Q (.bl (inS i j)) H
theorem op_inS : OpR X (compareOp .In) rInS := op_in_str
end
end Fz
namespace Fz
open PySem L2
/-- a def that is called by place and by its names in their order -/
structure Dk (P : Program) (w : World) (K : PySem.W.Frag) (mg : Str → Option Value) (base : Heap) (CX : CXT) (k : Nat) (x : Str) (ps : List Str) (sp : Sp) : Prop where
  ex : ∃ fd, Dx P w K mg base CX k x ps sp fd ∧ Binds K fd ps [] ∧ ∃ g, KBn K fd ps 0 ps g (fun vs zs => vs ++ zs)
end Fz
/-! ### data: their types, their lengths -/
namespace Fz
open PySem L2
/-! ### the bounds of data -/
def Lim (k : Bool) (w h : Nat) (d : PyData) : Prop := good k d = true ∧ wt d ≤ w ∧ d.depth ≤ h
theorem Lim.le {k : Bool} {w w' h h' : Nat} {d : PyData} (l : Lim k w h d) (a : w ≤ w') (b : h ≤ h') : Lim k w' h' d := ⟨l.1, Nat.le_trans l.2.1 a, Nat.le_trans l.2.2 b⟩
theorem goodAll_of {k : Bool} : ∀ {ds : List PyData}, (∀ d ∈ ds, good k d = true) → goodAll k ds = true
  | [], _ => by simp only [goodAll]
  | d :: ds, h => by
    simp only [goodAll, Bool.and_eq_true]
    exact ⟨h d (List.mem_cons_self ..), goodAll_of fun x hx => h x (List.mem_cons_of_mem _ hx)⟩
theorem wtAll_le {w : Nat} : ∀ {ds : List PyData}, (∀ d ∈ ds, wt d ≤ w) → wtAll ds ≤ ds.length * (w + 2)
  | [], _ => by simp only [wtAll]; exact Nat.zero_le _
  | d :: ds, h => by
    have h1 := h d (List.mem_cons_self ..)
    have h2 := wtAll_le (w := w) (ds := ds) fun x hx => h x (List.mem_cons_of_mem _ hx)
    simp only [wtAll, List.length_cons]
    rw [Nat.add_mul]
    omega
end Fz
/-! ### except suites: several clauses «except NAME as n», defs called within a suite -/
namespace Fz
open PySem PySem.Spec PyProof.Rows L2
/-- the clauses; rest: those that are never asked -/
inductive AsOk (X : Cx) (n : Str) (rest : List ExceptHandler) : List ExceptHandler → List (Value × (Addr → Value → Option Addr → TS)) → Prop
  | nil : AsOk X n rest rest []
  | cons {x : Str} {c : Value} {ts : Addr → Value → Option Addr → TS} {b₀ : Stmt} {suite : List Stmt} {np pos' : Pos} {hds : List ExceptHandler} {l : List (Value × (Addr → Value → Option Addr → TS))} (hc : Names X x c)
      (hsu : ∀ (a : Addr) (oe : Obj) (cls : Value) (d : Option Addr) (pn : List (Addr × Obj)), Zc cls d oe → (∃ vs, oe.data = .fields vs) → PSs (X.suite a ((a, oe) :: pn)) (b₀ :: suite) (ts a cls d)) (r : AsOk X n rest hds l) :
      AsOk X n rest (.ExceptHandler (some (.Name x np)) (some n) (b₀ :: suite) pos' :: hds) ((c, ts) :: l)
/-! ### defs called within a suite: the exception is pinned -/
theorem RoomQ.deeper {k : Nat} {A : Around} (r : RoomQ (k + 1) A) (env : Env) : RoomQ k (A.deeper env) :=
  ⟨by have := r.dp; show A.depth + 1 + 3 * k + 5 < _; omega, by have := r.un; show A.units + 3 + 16 * k + 200 < _; omega, guards_deeper.trans r.gs⟩
theorem RoomQ.units {k : Nat} {A : Around} (r : RoomQ k A) : A.units + 64 < cLine := by have := r.un; omega
section
variable {P : Program} {w : World} {K : PySem.W.Frag} {mg : Str → Option Value} {base : Heap} {CX : CXT} {k : Nat} {f : Addr} {fd : FuncData} {ps : List Str} {sp : Addr × Obj → Sp}
variable (P w K mg base CX k f fd ps sp) in
structure FnQ : Prop where
  len : ∀ p vs H Q E, sp p vs H Q E → vs.length = ps.length
  run : ∀ (A : Around) (outer : List Env) (s : Shared) (H : Hp) (args : Args) (us : List Value) (vs : List V) (Q : VK) (E : XK) (p : Addr × Obj), RoomQ k A → L2H.PinOk outer H s p → Env0 P w K mg base A outer s H → BindsTo s fd args (ps.zip us) → Vals vs us → sp p vs H Q E →
    codeAny (model P w) A (.call (.ref f) args) (CR CX outer P w H s Q E) s
end
end Fz
/-! ### isinstance of an exception that is pinned; FarError.__init__(self, ..); facts of exception classes -/
namespace Fz
open PySem PySem.Spec PyProof.Rows L2
theorem IsX.same {H H' : Hp} {p : Addr × Obj} {D dd : Addr} {fs : List (Str × V)} (h : IsX H p D dd fs) (s : Same H H') : IsX H' p D dd fs := ⟨h.cls, h.dict, h.data, s _ _ h.at_⟩
/-! ### classes -/
/-- what K says of a base class: its __init__ is ValueError's -/
structure FarC (K : PySem.W.Frag) (B : Addr) : Prop where
  sg : PySem.W.specialIn K (.ref B) "__getattribute__" = some (some (.builtin "type.__getattribute__"))
  rd : PySem.W.readsIn K B (.type "type") = true
  fi : PySem.W.findCls K (.ref B) (.type "type") "__init__" = some (.val (.builtin "ValueError.__init__"))
/-- what K says of an exception class C with one field f, made by its own __init__ -/
structure ExK (K : PySem.W.Frag) (C fI : Addr) (f : Str) : Prop where
  oex : OexC K C
  xf : XfC K C
  ex : ExcC K C
  no : PySem.W.findIn K (.ref C) f = some none
  ini : PySem.W.findIn K (.ref C) "__init__" = some (some (.ref fI))
  tyI : PySem.W.typeIn K (.ref fI) = some (.type "function")
  me : PySem.W.exmOne K (.ref C) (.ref C) = some true
end Fz
/-! ### lists of truths: count, index -/
/-! ### calls in a try's body: what is wished of an exception knows the slots -/
namespace Fz
open PySem PySem.Spec PyProof.Rows L2
def tCallNS (n m : Nat) (sp : Sp) (gV : List V → List V → List V) (E : L2.St → XK) (t tk : TA) : TE := fun σ H Q => t σ H fun vs H1 => tk σ H1 fun zs H2 => vs.length = n ∧ zs.length = m ∧ sp (gV vs zs) H2 Q (E σ)
section
variable {X : Cx} {CX : CXT} {k n : Nat} {f : Addr} {fd : FuncData} {ps ks : List Str} {sp : Sp} {E : L2.St → XK} {x : Str} {p pos : Pos} {e : Expr} {es : List Expr} {kws : List Keyword} {t tk : TA} {g : List Value → List Value → List Value} {gV : List V → List V → List V}
theorem run_anyS {pins : List (Addr × Obj)} {σ : L2.St} {H : Hp} {s : Shared} {Q : VK} {us ws : List Value} {kw : List (Str × Value)} {zs : List V} {E0 : XK} (F : FnG X.prog X.w X.K X.mg X.base CX k f fd ps sp) (hr : RoomG k X.A) (hb : BindsTo s fd ⟨us, kw⟩ (ps.zip ws)) (hx : PassesAt CX X σ E0)
    (I : Inv X pins σ H s) (r : Vals zs ws) (h : sp zs H Q E0) : wpAny (model X.prog X.w) X.A (call (.ref f) us kw) (EP X pins σ Q) X.xe s := by
  refine wpAny_call (codeAny_mono (F.run X.A X.stack s H ⟨us, kw⟩ ws zs Q E0 hr I.env0 hb r h) fun r s' hq => ?_)
  cases r with
  | error e => exact hx pins H s e s' I hq
  | ok fl =>
    cases fl with
    | ret u => exact I.after hq
    | next => exact False.elim hq
    | brk => exact False.elim hq
    | cont => exact False.elim hq
theorem pe_clS (D : Df X.prog X.w X.K X.mg X.base CX k x ps sp) (hr : RoomG k X.A) (hg : Gl X x) (hx : ∀ σ, PassesAt CX X σ (E σ))
    (ha : PA X (e :: es) t) (hdb : (x == ("__debug__" : Str)) = false := by decide) (he : starEach (e :: es) X.env = (false, eval e X.env) :: starEach es X.env := by rfl) (hpl : (backTo pos (starEach es X.env)).any (·.1) = false := by rfl) :
    PE X (.Call (.Name x p) (e :: es) [] pos) (tCallS sp E t) := by
  obtain ⟨fd, F, hb⟩ := D.ex
  refine ⟨fun pins s σ H Q I h => ?_⟩
  refine wpAny_Call_Name_kw (ld_glob I hg D.gl ?_ hdb)
  refine PySem.W.callWith_K (h₀ := X.base) I.ok.mod.kin D.kp (thn (ha.run pos pins s σ H _ I h) fun us s1 ⟨vs, H1, I1, r, q⟩ => ⟨I1.kIn, ?_⟩) he hpl
  have hl : us.length = ps.length := by rw [← r.length]; exact F.len _ _ _ _ q
  have b := hb s1 us I1.kIn (by rw [List.append_nil]; exact hl)
  rw [List.append_nil] at b
  exact run_anyS F hr b (hx σ) I1 r q
end
/-- what a callee lets out leaves the def, too -/
theorem passE {X : Cx} {E : XK} {E₁ : Value → Shared → Prop} (hs : X.stack = X.env :: X.outer) (hf : X.env.frame = some X.env.locals) (hex : X.ex = [])
    (hx : X.xe = fun e s' => wpAny (model X.prog X.w) X.A (leaving X.env e) (fun _ s'' => L2.CX X.prog X.w X.outer X.H_0 X.s_0 E e s'') E₁ s') : Passes (L2.CX X.prog X.w) X E :=
  passes_call (takes_of hs hf hex hx) fun _ _ _ _ h => h
/-! ### an exception's own __init__, its raise -/
end Fz
/-! ### the head's facts, with tests of one's own -/
/-! ### tuples that have no dict of their own -/
namespace Fz
open PySem PySem.Spec PyProof.Rows L2
abbrev NewP (H : Hp) (xs : List V) (Q : VK) : Prop := ∀ p H2, H p = none → Same H H2 → PtH H2 p xs → Q (.ref p) H2
section
variable {K : PySem.W.Frag} {H H' : Hp} {a : Addr} {xs : List V}
theorem Pt.sq (h : Pt K H a xs) : SqT K H a xs := by
  rcases h with ⟨o, _, h⟩ | ⟨o, its, n, h1, h2, _, h3, h4, h5⟩
  · exact .inl (.inr ⟨o, h⟩)
  · exact .inr ⟨o, its, n, h1, h2, h3, h4, h5⟩
/-- a tuple object, whole -/
theorem Pt.plain {X : Cx} {pins : List (Addr × Obj)} {σ : L2.St} {s : Shared} (I : Inv X pins σ H s) (h : Pt X.K H a xs) : ∃ (its : List Value) (o : Obj) (n : Nat), Vals xs its ∧ s.heap.get? a = some o ∧ o.cls = .type "tuple" ∧ o.dict = none ∧ o.data = .seq its.toArray n ∧ xs.length ≤ sizeLine := by
  rcases h with ⟨o, d, h⟩ | ⟨o, its, n, h1, h2, d, h3, h4, h5⟩
  · obtain ⟨g, z, its, r, o', g', c, n, q⟩ := (show ObjOk X.prog X.w H s.heap a (.frz o (.tup xs)) from I.hok a _ h)
    rw [g] at g'
    cases g'
    exact ⟨its, o, n, r, g, c, d, q, z⟩
  · refine ⟨its.toList, o, n, h5, I.kIn a o h1, h2, d, by simpa using h3, ?_⟩
    have e := h5.length
    simp only [Array.length_toList] at e
    omega
end
section
variable {X : Cx} {es : List Expr} {t : TA} {pos : Pos}
/-- a new tuple is laid -/
theorem laid_tup {pins : List (Addr × Obj)} {σ : L2.St} {H : Hp} {s : Shared} {xs : List V} {us : List Value} {h' : Heap} {tk : Nat} {Q : VK} (I : Inv X pins σ H s) (hk : ∀ b o, s.heap.get? b = some o → h'.get? b = some o) (hz : s.heap.objs.size ≤ h'.objs.size)
    (z : xs.length ≤ sizeLine) (r : Vals xs us) (q : NewP H xs Q) :
    ∃ v H2, Inv X pins σ H2 { s with heap := h'.push { cls := .type "tuple", data := .seq us.toArray }, toks := tk } ∧ RelV v (.ref h'.objs.size) ∧ Q v H2 := by
  have hn : H h'.objs.size = none := I.hok.fresh hz
  refine ⟨.ref h'.objs.size, upd H h'.objs.size (.frz { cls := .type "tuple", data := .seq us.toArray } (.tup xs)), I.laid (t' := tk) (fun b u e => Heap.get?_push_of_some _ (hk b u e)) hz ?_, rfl, q _ _ hn (new_same hn) ⟨_, rfl, upd_same⟩⟩
  exact ⟨Heap.get?_push_size _ rfl, z, us, r, ⟨_, Heap.get?_push_size _ rfl, rfl, _, rfl⟩⟩
def tTupP (t : TA) : TE := fun σ H Q => t σ H fun xs H1 => xs.length ≤ sizeLine ∧ NewP H1 xs Q
theorem pe_tupP {x1} (h : PA X es t) : PE X (.Tuple es x1 pos) (tTupP t) := by
  refine ⟨fun pins s σ H Q I hq => ?_⟩
  refine wpAny_Tuple_spliced (thn (h.run pos pins s σ H _ I hq) fun us s1 ⟨xs, H1, I1, r, z, q⟩ => ⟨by rw [← r.length]; exact z, ?_⟩)
  exact laid_tup (h' := s1.heap) (tk := s1.toks) I1 (fun _ _ e => e) (Nat.le_refl _) z r q
def cTupP (K : PySem.W.Frag) : List V → Hp → VK → Prop := fun xs H Q => ∃ (p : Addr) (ys : List V), xs = [.ref p] ∧ SqL K H p ys ∧ NewP H ys Q
theorem k_tupleP {K : PySem.W.Frag} (e : X.K = K) : CallR X (.type "tuple") (cTupP K) := by
  subst e
  intro pins s σ H xs us Q I r h
  obtain ⟨p, ys, rfl, hs, q⟩ := h
  obtain ⟨u, rfl, ru⟩ := vals1 r
  cases ru
  obtain ⟨its, rv, pl, hz⟩ := I.list hs
  refine call_tuple_list pl.isList (fun h' hk => ?_) (by rw [List.size_toArray, ← rv.length]; exact hz)
  have I1 : Inv X pins σ H { s with heap := h' } := I.kept (t' := s.toks) hk
  exact laid_tup (s := { s with heap := h' }) (h' := h') (tk := s.toks) I1 (fun _ _ e => e) (Nat.le_refl _) hz rv q
def rCatTP (K : PySem.W.Frag) : R2 := fun x y H Q => ∃ a b xs zs, x = .ref a ∧ y = .ref b ∧ Pt K H a xs ∧ Pt K H b zs ∧ xs.length + zs.length ≤ sizeLine ∧ ∀ c H2, Same H H2 → Pt K H2 c (xs ++ zs) → Q (.ref c) H2
theorem k_catTP {K : PySem.W.Frag} (e : X.K = K) : OpR X (binaryOp .Add) (rCatTP K) := by
  subst e
  intro pins s σ H x y v u Q I rx ry h
  obtain ⟨a, b, xs, ys, rfl, rfl, ha, hb, hz, q⟩ := h
  cases rx
  cases ry
  obtain ⟨its, r1, p1, _⟩ := I.tuple ha.sq
  obtain ⟨its2, r2, p2, _⟩ := I.tuple hb.sq
  by_cases hx : xs = []
  · subst hx
    cases r1
    exact cat_tup0 p1 p2 ⟨.ref b, H, I, rfl, q b H (Same.refl H) hb⟩
  · refine HT.cat_tup p1 p2 (fun z => hx (r1.nil_iff.mp z)) (fun z => ⟨.ref a, H, I, rfl, q a H (Same.refl H) (by rw [r2.nil_iff.mp z, List.append_nil]; exact ha)⟩) (fun z => ?_) (by rw [← r1.length, ← r2.length]; exact hz)
    refine laid_tup (h' := s.heap) (tk := s.toks) (us := its ++ its2) I (fun _ _ e => e) (Nat.le_refl _) (by rw [List.length_append]; exact hz) (r1.append r2) fun c H2 _ s p => q c H2 s (.inl p)
def rSlTP (K : PySem.W.Frag) : V → Option Int → Option Int → Hp → VK → Prop := fun x lo hi H Q => ∃ a xs, x = .ref a ∧ Pt K H a xs ∧ ∀ b H2, Same H H2 → Pt K H2 b (cutV xs lo hi) → Q (.ref b) H2
theorem k_slTP {K : PySem.W.Frag} (e : X.K = K) : SlR X (rSlTP K) := by
  subst e
  intro pins s σ H x v vl vu lo hi sl Q I rx hs pl pu h
  obtain ⟨a, xs, rfl, hx, q⟩ := h
  cases rx
  obtain ⟨its, r, ht, hz⟩ := I.tuple hx.sq
  have hlen : its.toArray.size = xs.length := by rw [List.size_toArray]; exact r.length.symm
  refine ⟨"tuple", _, PyProof.Rows.slot_tuple_getitem.lookup, ht.typeIs, ?_⟩
  by_cases hw : HT.sIx xs.length 0 lo = 0 ∧ HT.sIx xs.length xs.length hi = xs.length
  · refine getItem_tuple_whole ht hs pl pu (by rw [hlen]; exact hw) ⟨.ref a, H, I, rfl, q a H (Same.refl H) ?_⟩
    have ec : cutV xs lo hi = xs := by
      show (xs.drop (HT.sIx xs.length 0 lo)).take (HT.sIx xs.length xs.length hi - HT.sIx xs.length 0 lo) = xs
      rw [hw.1, hw.2, List.drop_zero, Nat.sub_zero, List.take_length]
    rw [ec]
    exact hx
  · refine HT.getItem_tuple_cut ht hs pl pu (by rw [hlen]; exact hw) ?_ (by rw [hlen]; exact hz)
    rw [hlen]
    exact laid_tup (h' := s.heap) (tk := s.toks) (xs := cutV xs lo hi) I (fun _ _ e => e) (Nat.le_refl _) (Nat.le_trans (cutV_length xs lo hi) hz) ((r.drop (HT.sIx xs.length 0 lo)).take (HT.sIx xs.length xs.length hi - HT.sIx xs.length 0 lo)) fun c H2 _ s p => q c H2 s (.inl p)
end
end Fz
/-! ### comparisons that look at kinds and lengths alone -/
namespace Fz
open PySem PySem.Spec PyProof.Rows L2
def rShl (K : PySem.W.Frag) (n : Bool) : R2 := fun x y H Q => ∃ a b, x = .ref a ∧ y = .ref b ∧
  ((∃ xs ys, SqL K H a xs ∧ SqL K H b ys ∧ xs.length ≠ ys.length ∧ Q (.bl n) H) ∨
  (∃ xs ys, SqT K H a xs ∧ SqT K H b ys ∧ (xs = [] ∨ ys = []) ∧ Q (.bl ((xs.length == ys.length) != n)) H) ∨
  (∃ (kvs : List (Key × V)) (ys : List V), H a = some (.dK kvs) ∧ SqT K H b ys ∧ Q (.bl n) H))
section
variable {prog : Program} {w : World} {A : Around} {E : Value → Shared → Prop} {s : Shared} {a b : Addr} {ka : List (Key × Value)} {knd : KeyKind prog w Key} {its : Array Value} {Q : Value → Shared → Prop}
theorem dict_decl_eq (da : s.heap.DictOf knd a ka) (hb : s.TypeIs (.ref b) "tuple") (h : Q .notImplemented s) : wpAny (model prog w) A (call (.builtin "dict.__eq__") [.ref a, .ref b]) Q E s := by
  refine wpAny_call_entry PySem.F.slot_dict_eq da.typeIs PySem.F.entry_dict_eq ?_ (PySem.F.args_dict_eq_2 _ _)
  show wpAny _ _ (Builtin.Dict.dictSlotArgs "__eq__" ⟨[.ref a, .ref b], []⟩ >>= _) _ _ s
  refine wpAny_bind ?_
  unfold Builtin.Dict.dictSlotArgs
  refine wpAny_bind (wpAny_notOrdered_dict da.typeIs ?_)
  show wpAny _ _ (pure (Value.ref a, Value.ref b)) _ _ s
  refine wpAny_pure ?_
  refine wpAny_bind (wpAny_isInstance (T := "tuple") hb PySem.F.sub_tuple_dict ?_)
  simp only [Bool.not_false, if_true]
  refine wpAny_bind (wpAny_rule ?_)
  refine wpAny_pure ?_
  exact ⟨_, rfl, h⟩
theorem dict_decl_ne (da : s.heap.DictOf knd a ka) (hb : s.TypeIs (.ref b) "tuple") (h : Q .notImplemented s) : wpAny (model prog w) A (call (.builtin "dict.__ne__") [.ref a, .ref b]) Q E s := by
  refine wpAny_call_entry PySem.F.slot_dict_ne da.typeIs PySem.F.entry_dict_ne ?_ (PySem.F.args_dict_ne_2 _ _)
  show wpAny _ _ (Builtin.Dict.dictSlotArgs "__ne__" ⟨[.ref a, .ref b], []⟩ >>= _) _ _ s
  refine wpAny_bind ?_
  unfold Builtin.Dict.dictSlotArgs
  refine wpAny_bind (wpAny_notOrdered_dict da.typeIs ?_)
  show wpAny _ _ (pure (Value.ref a, Value.ref b)) _ _ s
  refine wpAny_pure ?_
  refine wpAny_bind (wpAny_isInstance (T := "tuple") hb PySem.F.sub_tuple_dict ?_)
  simp only [Bool.not_false, if_true]
  refine wpAny_bind (wpAny_rule ?_)
  refine wpAny_pure ?_
  exact ⟨_, rfl, h⟩
end
open PySem.SeqAt PySem.AutoSeq1 in
theorem tuple_eq_declD (l b : Addr) (items : Array Value) (n : Nat) (dd dd2 : Option Addr) (sl sl2 : Array (Option Value)) (dt : Data) :
    Meets (Builtin.«tuple.__eq__» ⟨[.ref l, .ref b], []⟩) (fun _ R s => s.heap.get? l = some { cls := .type "tuple", dict := dd, data := .seq items n, slots := sl } ∧ s.heap.get? b = some { cls := .type "dict", dict := dd2, data := dt, slots := sl2 } ∧ R (.ok (.ret .notImplemented)) s) :=
  .of_wp fun prog w A R s h => by obtain ⟨hp, g, d, tk, os⟩ := s; obtain ⟨hl, hb, h⟩ := h; have f1 := F.sub_dict_tuple; wp_walk using wpAny_loadPart' hl, wpAny_loadPart' hb; exact ⟨_, rfl, h⟩
open PySem.SeqAt PySem.AutoSeq1 in
theorem tuple_ne_declD (l b : Addr) (items : Array Value) (n : Nat) (dd dd2 : Option Addr) (sl sl2 : Array (Option Value)) (dt : Data) :
    Meets (Builtin.«tuple.__ne__» ⟨[.ref l, .ref b], []⟩) (fun _ R s => s.heap.get? l = some { cls := .type "tuple", dict := dd, data := .seq items n, slots := sl } ∧ s.heap.get? b = some { cls := .type "dict", dict := dd2, data := dt, slots := sl2 } ∧ R (.ok (.ret .notImplemented)) s) :=
  .of_wp fun prog w A R s h => by obtain ⟨hp, g, d, tk, os⟩ := s; obtain ⟨hl, hb, h⟩ := h; have f1 := F.sub_dict_tuple; wp_walk using wpAny_loadPart' hl, wpAny_loadPart' hb; exact ⟨_, rfl, h⟩
section
open PySem.SeqAt
variable {X : Cx}
theorem k_eqS (hu : X.A.units + 64 < cLine) : OpR X (compareOp .Eq) (rShl X.K false) := by
  intro pins s σ H x y v u Q I rx ry h
  obtain ⟨a, b, rfl, rfl, h⟩ := h
  obtain rfl : v = Value.ref a := rx
  obtain rfl : u = Value.ref b := ry
  rcases h with ⟨xs, ys, h1, h2, hn, q⟩ | ⟨xs, ys, h1, h2, hn, q⟩ | ⟨kvs, ys, h1, h2, q⟩
  · obtain ⟨its, r1, ⟨o, n, e, c, d, t⟩, _⟩ := I.list h1
    obtain ⟨its2, r2, ⟨o2, n2, e2, c2, d2, t2⟩, _⟩ := I.list h2
    have l1 := r1.length
    have l2 := r2.length
    exact eq_list_lengthsAt ⟨o, e, c, n, t⟩ ⟨o2, e2, c2, n2, t2⟩ (by simp; omega) (by omega) ⟨.bl _, H, I, rfl, q⟩
  · obtain ⟨its, r1, ht, _⟩ := I.tuple h1
    obtain ⟨its2, r2, ht2, _⟩ := I.tuple h2
    have l1 := r1.length
    have l2 := r2.length
    have hz : its.length = 0 ∨ its2.length = 0 := hn.elim (fun z => .inl (by rw [← l1, z]; rfl)) (fun z => .inr (by rw [← l2, z]; rfl))
    refine eq_tupleAt (e := fun _ => true) ht ht2 (by omega) (fun j a1 a2 => ?_) ⟨.bl _, H, I, ?_, q⟩
    · simp at a1 a2
      omega
    · have e : ((List.range (min its.toArray.size its2.toArray.size)).all fun _ => true) = true := List.all_eq_true.mpr fun _ _ => rfl
      rw [Bool.bne_false, l1, l2, e, Bool.true_and]
      simp only [List.size_toArray]
      rfl
  · obtain ⟨_, ya, va, ra, da⟩ := (show ObjOk X.prog X.w H s.heap a (.dK kvs) from I.hok a _ h1)
    obtain ⟨its2, r2, ht2, _⟩ := I.tuple h2
    obtain ⟨⟨cls2, dd2, data2, sl2⟩, ho2, hc2, n2, hd2⟩ := id ht2
    obtain ⟨⟨cls, dd, dt, sl⟩, es, ep, hoa, ⟨hca, _, _⟩, hrest⟩ := id da
    simp only at hc2 hd2 hca
    subst hc2 hd2 hca
    have hne : a ≠ b := fun z => by
      subst z
      rw [hoa] at ho2
      exact absurd (congrArg Obj.cls (Option.some.inj ho2)) (by simp)
    exact rc_eq_decline_or (k := false) ⟨_, hoa, rfl⟩ ⟨_, ho2, rfl⟩ (by decide) F.sub_tuple_dict F.slot_dict_eq F.slot_tuple_eq_refl
      (fun _ hq => dict_decl_eq da ⟨_, ho2, rfl⟩ hq)
      (fun _ hq => call_meets F.slot_tuple_eq_refl ⟨_, ho2, rfl⟩ F.entry_tuple_eq (F.args_tuple_eq_2 _ _) (tuple_eq_declD b a _ n2 dd2 dd sl2 sl dt) ⟨ho2, hoa, hq⟩)
      (fun _ hq => wpAny_isSame_ref_other hne hoa ho2 (by simp) hq) (.inr (by omega)) ⟨.bl _, H, I, rfl, q⟩
theorem k_neS (hu : X.A.units + 64 < cLine) : OpR X (compareOp .NotEq) (rShl X.K true) := by
  intro pins s σ H x y v u Q I rx ry h
  obtain ⟨a, b, rfl, rfl, h⟩ := h
  obtain rfl : v = Value.ref a := rx
  obtain rfl : u = Value.ref b := ry
  rcases h with ⟨xs, ys, h1, h2, hn, q⟩ | ⟨xs, ys, h1, h2, hn, q⟩ | ⟨kvs, ys, h1, h2, q⟩
  · obtain ⟨its, r1, ⟨o, n, e, c, d, t⟩, _⟩ := I.list h1
    obtain ⟨its2, r2, ⟨o2, n2, e2, c2, d2, t2⟩, _⟩ := I.list h2
    have l1 := r1.length
    have l2 := r2.length
    exact RcNeAt.lists_lengths ⟨o, e, c, n, t⟩ ⟨o2, e2, c2, n2, t2⟩ (by simp; omega) (by omega) _ _ _ _ ⟨.bl _, H, I, rfl, q⟩
  · obtain ⟨its, r1, ht, _⟩ := I.tuple h1
    obtain ⟨its2, r2, ht2, _⟩ := I.tuple h2
    have l1 := r1.length
    have l2 := r2.length
    have hz : its.length = 0 ∨ its2.length = 0 := hn.elim (fun z => .inl (by rw [← l1, z]; rfl)) (fun z => .inr (by rw [← l2, z]; rfl))
    refine RcNeAt.tuples (e := fun _ => true) ht ht2 (by omega) (fun j a1 a2 => ?_) _ _ _ _ ⟨.bl _, H, I, ?_, q⟩
    · simp at a1 a2
      omega
    · have e : ((List.range (min its.toArray.size its2.toArray.size)).all fun _ => true) = true := List.all_eq_true.mpr fun _ _ => rfl
      rw [Bool.bne_true, l1, l2, e, Bool.true_and]
      simp only [List.size_toArray]
      rfl
  · obtain ⟨_, ya, va, ra, da⟩ := (show ObjOk X.prog X.w H s.heap a (.dK kvs) from I.hok a _ h1)
    obtain ⟨its2, r2, ht2, _⟩ := I.tuple h2
    obtain ⟨⟨cls2, dd2, data2, sl2⟩, ho2, hc2, n2, hd2⟩ := id ht2
    obtain ⟨⟨cls, dd, dt, sl⟩, es, ep, hoa, ⟨hca, _, _⟩, hrest⟩ := id da
    simp only at hc2 hd2 hca
    subst hc2 hd2 hca
    have hne : a ≠ b := fun z => by
      subst z
      rw [hoa] at ho2
      exact absurd (congrArg Obj.cls (Option.some.inj ho2)) (by simp)
    exact rc_ne_decline_or (k := false) ⟨_, hoa, rfl⟩ ⟨_, ho2, rfl⟩ (by decide) F.sub_tuple_dict F.slot_dict_ne F.slot_tuple_ne_refl
      (fun _ hq => dict_decl_ne da ⟨_, ho2, rfl⟩ hq)
      (fun _ hq => call_meets F.slot_tuple_ne_refl ⟨_, ho2, rfl⟩ F.entry_tuple_ne (F.args_tuple_ne_2 _ _) (tuple_ne_declD b a _ n2 dd2 dd sl2 sl dt) ⟨ho2, hoa, hq⟩)
      (fun _ hq => wpAny_isSame_ref_other hne hoa ho2 (by simp) hq) (.inr (by omega)) ⟨.bl _, H, I, rfl, q⟩
end
end Fz
/-! ### x[lo:hi:-1], lists and tuples -/
namespace Fz
open PySem PySem.Spec PyProof.Rows L2
/-- the items of xs[lo:hi:-1] -/
def negPick {α : Type} (xs : List α) (lo hi : Option Int) : List α :=
  (List.range (Builtin.Slice.slicePlaces (Builtin.Slice.sliceAdjust lo hi (-1) (xs.length : Int)).1 (Builtin.Slice.sliceAdjust lo hi (-1) (xs.length : Int)).2 (-1))).filterMap fun (m : Nat) => xs[((Builtin.Slice.sliceAdjust lo hi (-1) (xs.length : Int)).1 + (m : Int) * (-1)).toNat]?
theorem negPick_le {α : Type} (xs : List α) (lo hi : Option Int) (h : Builtin.Slice.slicePlaces (Builtin.Slice.sliceAdjust lo hi (-1) (xs.length : Int)).1 (Builtin.Slice.sliceAdjust lo hi (-1) (xs.length : Int)).2 (-1) ≤ xs.length) : (negPick xs lo hi).length ≤ xs.length := by
  unfold negPick
  exact Nat.le_trans (List.length_filterMap_le _ _) (by rw [List.length_range]; exact h)
section
variable {prog : Program} {w : World} {A : Around} {E : Value → Shared → Prop} {s : Shared}
theorem sliceApplied_neg {sl : Addr} {vl vu vs : Value} {lo hi : Option Int} {n : Nat} {Q : Int × Int × Nat → Shared → Prop} (hs : s.heap.IsSliceOf sl vl vu vs) (pl : IsPart vl lo) (pu : IsPart vu hi) (ps : IsPart vs (some (-1)))
    (h : Q ((Builtin.Slice.sliceAdjust lo hi (-1) (n : Int)).1, -1, Builtin.Slice.slicePlaces (Builtin.Slice.sliceAdjust lo hi (-1) (n : Int)).1 (Builtin.Slice.sliceAdjust lo hi (-1) (n : Int)).2 (-1)) s) : wpAny (model prog w) A (Builtin.Slice.sliceApplied (.ref sl) (pure (n : Int))) Q E s := by
  obtain ⟨os, hos, hcs, hds⟩ := id hs
  unfold Builtin.Slice.sliceApplied Builtin.Slice.sliceFields
  refine wpAny_bind (wpAny_bind (wpAny_field hos hds (x := vl) rfl (wpAny_bind (wpAny_field hos hds (x := vu) rfl (wpAny_bind (wpAny_field hos hds (x := vs) rfl (wpAny_pure ?_)))))))
  refine wpAny_bind (HT.slicePart_ ps ?_)
  show wpAny _ _ (if ((-1 : Int) == 0) = true then _ else _) _ _ s
  rw [if_neg (by decide)]
  refine wpAny_bind (HT.slicePart_ pl (wpAny_bind (HT.slicePart_ pu (wpAny_bind (wpAny_pure ?_)))))
  exact wpAny_pure h
theorem getItem_tuple_neg {t sl : Addr} {items : List Value} {vl vu vs : Value} {lo hi : Option Int} {Q : Value → Shared → Prop} (ht : IsTup s.heap t items.toArray) (hs : s.heap.IsSliceOf sl vl vu vs) (pl : IsPart vl lo) (pu : IsPart vu hi) (ps : IsPart vs (some (-1)))
    (h : Q (.ref s.heap.objs.size) { s with heap := s.heap.push { cls := .type "tuple", data := .seq (negPick items lo hi).toArray } })
    (hsz : (negPick items lo hi).length ≤ sizeLine) : wpAny (model prog w) A (getItem (.ref t) (.ref sl)) Q E s := by
  have htake : sizeOk (.seq (negPick items lo hi).toArray) := by
    show (negPick items lo hi).toArray.size ≤ sizeLine
    rw [List.size_toArray]
    exact hsz
  obtain ⟨os, hos, hcs, hds⟩ := id hs
  have hTs : s.TypeIs (.ref sl) "slice" := ⟨os, hos, hcs⟩
  unfold getItem
  try with_reducible refine wpAny_holding ?_
  first | refine wpAny_bind (wpAny_pure ?_) | skip
  refine wpAny_bind (wpAny_sequenceKey ht.typeIs (by decide) ?_)
  refine wpAny_bind (wpAny_callSpecial?_slot (name := Str.ofString "__getitem__") ht.typeIs PyProof.Rows.slot_tuple_getitem
    (wpAny_call_entry PyProof.Rows.slot_tuple_getitem ht.typeIs entry_tuple_getitem ?_ (args_tuple_getitem _ _)))
  show wpAny _ _ (Builtin.Tuple.tupleItemsOf (.ref t) >>= _) _ _ s
  refine wpAny_bind (tupleItemsOf_ ht ?_)
  refine wpAny_bind (wpAny_typeOf hTs ?_)
  rw [if_pos (by decide)]
  refine wpAny_bind (sliceApplied_neg hs pl pu ps ?_)
  have hno : ∀ (x : Int) (k n : Nat), ¬ ((x == 0 && (-1 : Int) == 1 && k == n) = true) := by
    intro x k n q
    rw [Bool.and_eq_true, Bool.and_eq_true] at q
    exact absurd q.1.2 (by decide)
  have ep : ((List.range (Builtin.Slice.slicePlaces (Builtin.Slice.sliceAdjust lo hi (-1) (items.toArray.size : Int)).1 (Builtin.Slice.sliceAdjust lo hi (-1) (items.toArray.size : Int)).2 (-1))).filterMap fun (m : Nat) => items.toArray[((Builtin.Slice.sliceAdjust lo hi (-1) (items.toArray.size : Int)).1 + (m : Int) * (-1)).toNat]?).toArray = (negPick items lo hi).toArray := by
    unfold negPick
    simp only [List.size_toArray, List.getElem?_toArray]
  simp only []
  rw [if_neg (hno _ _ _), ep]
  first
    | exact wpAny_bind (m := Builtin.Tuple.tupleExact _) (wpAny_newObj_type (wpAny_pure ⟨_, rfl, wpAny_pure h⟩) htake)
    | exact wpAny_bind (m := Builtin.Tuple.tupleExact _) (wpAny_newObj_type (wpAny_bind (wpAny_pure (wpAny_pure ⟨_, rfl, wpAny_pure h⟩))) htake)
    | exact wpAny_bind (wpAny_bind (m := Builtin.Tuple.tupleExact _) (wpAny_newObj_type (wpAny_pure (wpAny_pure ⟨_, rfl, wpAny_pure h⟩)) htake))
    | exact wpAny_bind (wpAny_bind (m := Builtin.Tuple.tupleExact _) (wpAny_newObj_type (wpAny_pure ⟨_, rfl, wpAny_pure h⟩) htake))
end
theorem vals_get : ∀ {xs : List V} {us : List Value} (i : Nat), Vals xs us → (xs[i]? = none ∧ us[i]? = none) ∨ ∃ x u, xs[i]? = some x ∧ us[i]? = some u ∧ RelV x u
  | _, _, _, .nil => .inl ⟨by simp, by simp⟩
  | _, _, 0, .cons r _ => .inr ⟨_, _, by simp, by simp, r⟩
  | _, _, i + 1, .cons _ t => by simpa using vals_get i t
theorem vals_pick {xs : List V} {us : List Value} (f : Nat → Nat) (r : Vals xs us) : ∀ l : List Nat, Vals (l.filterMap fun m => xs[f m]?) (l.filterMap fun m => us[f m]?)
  | [] => .nil
  | m :: l => by
    rw [List.filterMap_cons, List.filterMap_cons]
    rcases vals_get (f m) r with ⟨h1, h2⟩ | ⟨x, u, h1, h2, h3⟩
    · rw [h1, h2]; exact vals_pick f r l
    · rw [h1, h2]; exact .cons h3 (vals_pick f r l)
theorem vals_neg {xs : List V} {us : List Value} (r : Vals xs us) (lo hi : Option Int) : Vals (negPick xs lo hi) (negPick us lo hi) := by
  unfold negPick
  rw [r.length]
  exact vals_pick _ r _
section
variable {X : Cx} {e : Expr} {te : TE} {lo hi : Option Expr} {tl th : TO} {k : Nat} {p1 p2 p3 pos : Pos}
def tNegT (K : PySem.W.Frag) (te : TE) (tl th : TO) : TE := fun σ H Q => te σ H fun x H1 => tl σ H1 fun l H2 => th σ H2 fun h H3 => ∃ a xs, x = .ref a ∧ SqT K H3 a xs ∧ (negPick xs l h).length ≤ sizeLine ∧ NewP H3 (negPick xs l h) Q
theorem pe_negT (he : PE X e te) (hl : PO X lo tl) (hu : PO X hi th) : PE X (.Subscript e (.Slice lo hi (some (.UnaryOp .USub (.Constant (.int 1) k p1) p2)) p3) pos) (tNegT X.K te tl th) := by
  refine ⟨fun pins s σ H Q I h => ?_⟩
  refine Subscript_ (thn (he.run pins s σ H _ I h) fun v s1 ⟨x, H1, I1, r1, q1⟩ => ?_)
  have hst : PO X (some (.UnaryOp .USub (.Constant (.int 1) k p1) p2)) (tPart (tUn (rU fun i => .int (-i)) (tC (.int 1)))) := po_some (pe_un un_neg pe_int)
  refine wpAny_Slice (thn (hl.run pins s1 σ H1 _ I1 q1) fun vl s2 ⟨l, H2, I2, pl, q2⟩ => thn (hu.run pins s2 σ H2 _ I2 q2) fun vu s3 ⟨u, H3, I3, pu, q3⟩ => ?_)
  refine thn (hst.run pins s3 σ H3 (fun o H4 => o = some (-1) ∧ H4 = H3) I3 ⟨1, rfl, -1, rfl, rfl, rfl⟩) fun vs s4 ⟨o, H4, I4, ps, eo, e4⟩ => ?_
  subst eo e4
  obtain ⟨a, xs, ex, hx, hz, q⟩ := q3
  subst ex
  cases r1
  have I5 : Inv X pins σ H4 { s4 with heap := s4.heap.push { cls := .type "slice", data := .fields #[vl, vu, vs] } } := I4.kept (t' := s4.toks) fun b ob q => Heap.get?_push_of_some _ q
  obtain ⟨its, r, ht, _⟩ := I5.tuple hx
  have hl2 := (vals_neg r l u).length
  show wpAny (model X.prog X.w) X.A (subscriptTail e (.Slice lo hi (some (.UnaryOp .USub (.Constant (.int 1) k p1) p2)) p3) (.ref a) (.ref s4.heap.objs.size)) (EP X pins σ Q) X.xe { s4 with heap := s4.heap.push { cls := .type "slice", data := .fields #[vl, vu, vs] } }
  refine tail_any (ops := [.ref a, .ref s4.heap.objs.size]) ht.typeIs PyProof.Rows.slot_tuple_getitem.lookup ?_ (by with_unfolding_all rfl)
  refine getItem_tuple_neg ht (Heap.IsSliceOf.new _ vl vu vs) pl pu ps ?_ (by omega)
  exact laid_tup (tk := s4.toks) I5 (fun _ _ e => e) (Nat.le_refl _) hz (vals_neg r l u) q
end
end Fz
/-! ### dicts compared -/
namespace Fz
open PySem PySem.Spec PyProof.Rows L2
def hitP (pb : List (Key × PyData)) (p : Key × PyData) : Bool := match valP pb p.1 with
  | some y => PyData.eqv p.2 y
  | none => false
def eqKV (pa pb : List (Key × PyData)) : Bool := pa.length == pb.length && pa.all (hitP pb)
def rEqDD (K : PySem.W.Frag) (n : Bool) : R2 := fun x y H Q => ∃ (a b : Addr) (ks ls : List (Key × V)) (pa pb : List (Key × PyData)), x = .ref a ∧ y = .ref b ∧ H a = some (.dK ks) ∧ H b = some (.dK ls) ∧ ((ks.length ≠ ls.length ∧ Q (.bl (false != n)) H) ∨ (PyKV K H ks pa ∧ PyKV K H ls pb ∧ Q (.bl (eqKV pa pb != n)) H))
section
variable {X : Cx} {pins : List (Addr × Obj)} {σ : L2.St} {H : Hp} {s : Shared}
theorem hits_py (I : Inv X pins σ H s) (hu : X.A.units + 65 < cLine) {ls : List (Key × V)} {vb : List (Key × Value)} {pb : List (Key × PyData)} (rb : KV ls vb) (hb : PyKV X.K H ls pb) : ∀ {ks : List (Key × V)} {va : List (Key × Value)} {pa : List (Key × PyData)}, KV ks va → PyKV X.K H ks pa → PySem.W.KeqHits X.A.in1 s vb va (pa.all (hitP pb))
  | _, _, _, .nil, .nil => .nil
  | _, _, _, .cons (b := q) h t, .cons (b := p) h2 t2 => by
    obtain ⟨q1, q2⟩ := q
    obtain ⟨p1, p2⟩ := p
    obtain ⟨e1, r1⟩ := h
    obtain ⟨e2, r2, s2⟩ := h2
    simp only at e1 r1 e2 r2 s2
    have e3 : p1 = q1 := e2.symm.trans e1
    subst e3
    have ih := hits_py I hu rb hb t t2
    have rr := rb.val p1
    rw [List.all_cons]
    rcases hb.val p1 with ⟨h1, h3⟩ | ⟨v, y, h1, h3, h4, h5⟩
    · rw [h1] at rr
      have e4 : hitP pb (p1, p2) = false := by unfold hitP; simp only [h3]
      rw [e4, Bool.false_and]
      refine .miss ?_
      cases hv : valueAt vb p1 with
      | none => rfl
      | some z => rw [hv] at rr; exact rr.elim
    · rw [h1] at rr
      obtain ⟨y', hy, ry⟩ := rr.some_of
      have e4 : hitP pb (p1, p2) = PyData.eqv p2 y := by unfold hitP; simp only [h3]
      rw [e4]
      obtain ⟨as, ra⟩ := Dp.reads I _ _ _ r2 r1
      obtain ⟨bs, rb2⟩ := Dp.reads I _ _ _ h4 ry
      exact .hit hy (PySem.W.keq_at ra rb2 s2 h5 (by show X.A.units + 1 + 64 < cLine; omega)) ih
theorem k_eqDD (hu : X.A.units + 65 < cLine) : OpR X (compareOp .Eq) (rEqDD X.K false) := by
  intro pins s σ H x y v u Q I rx ry h
  obtain ⟨a, b, ks, ls, pa, pb, rfl, rfl, ea, eb, h⟩ := h
  obtain rfl : v = Value.ref a := rx
  obtain rfl : u = Value.ref b := ry
  obtain ⟨_, ya, va, ra, da⟩ := (show ObjOk X.prog X.w H s.heap a (.dK ks) from I.hok a _ ea)
  obtain ⟨_, yb, vb, rb, db⟩ := (show ObjOk X.prog X.w H s.heap b (.dK ls) from I.hok b _ eb)
  rcases h with ⟨hl, q⟩ | ⟨h1, h2, q⟩
  · have hl2 : ¬ va.length = vb.length := fun z => hl ((Paired.length ra).trans (z.trans (Paired.length rb).symm))
    exact PySem.W.keq_eq (knd := mixKind X.prog X.w) (r := false) ya yb da db (by omega) (fun z => (hl2 z).elim) (fin_bl I q (by simp))
  · have l1 : va.length = pa.length := ra.length.symm.trans (Paired.length h1)
    have l2 : vb.length = pb.length := rb.length.symm.trans (Paired.length h2)
    exact PySem.W.keq_eq (knd := mixKind X.prog X.w) ya yb da db (by omega) (fun _ => hits_py I hu rb h2 ra h1) (fin_bl I q (by rw [Bool.bne_false, l1, l2]; rfl))
theorem k_neDD (hu : X.A.units + 65 < cLine) : OpR X (compareOp .NotEq) (rEqDD X.K true) := by
  intro pins s σ H x y v u Q I rx ry h
  obtain ⟨a, b, ks, ls, pa, pb, rfl, rfl, ea, eb, h⟩ := h
  obtain rfl : v = Value.ref a := rx
  obtain rfl : u = Value.ref b := ry
  obtain ⟨_, ya, va, ra, da⟩ := (show ObjOk X.prog X.w H s.heap a (.dK ks) from I.hok a _ ea)
  obtain ⟨_, yb, vb, rb, db⟩ := (show ObjOk X.prog X.w H s.heap b (.dK ls) from I.hok b _ eb)
  rcases h with ⟨hl, q⟩ | ⟨h1, h2, q⟩
  · have hl2 : ¬ va.length = vb.length := fun z => hl ((Paired.length ra).trans (z.trans (Paired.length rb).symm))
    exact PySem.W.keq_ne (knd := mixKind X.prog X.w) (r := false) ya yb da db (by omega) (fun z => (hl2 z).elim) (fin_bl I q (by simp))
  · have l1 : va.length = pa.length := ra.length.symm.trans (Paired.length h1)
    have l2 : vb.length = pb.length := rb.length.symm.trans (Paired.length h2)
    exact PySem.W.keq_ne (knd := mixKind X.prog X.w) ya yb da db (by omega) (fun _ => hits_py I hu rb h2 ra h1) (fin_bl I q (by rw [Bool.bne_true, l1, l2]; rfl))
end
end Fz
/-! ### tuples of flat things compared -/
namespace Fz
open PySem PySem.Spec PyProof.Rows L2
def pyF : V → PyData
  | .bl b => .bool b
  | .int i => .int i
  | .str z => .str z
  | _ => .none
theorem flat_rel {x : V} {u : Value} (h : flatV x = true) (r : RelV x u) : PyProof.V.Flat u (pyF x) := by
  cases x with
  | non => cases r; exact fun _ => .none
  | bl b => cases r; exact PyProof.V.Flat.bool b
  | int i => obtain ⟨t, rfl⟩ := r; exact PyProof.V.Flat.int i t
  | str z => obtain ⟨t, rfl⟩ := r; exact PyProof.V.Flat.str z t
  | _ => cases h
def rFlT (K : PySem.W.Frag) (n : Bool) : R2 := fun x y H Q => ∃ (a b : Addr) (xs ys : List V), x = .ref a ∧ y = .ref b ∧ SqT K H a xs ∧ SqT K H b ys ∧ xs.all flatV = true ∧ ys.all flatV = true ∧ Q (.bl (PyData.eqvAll (xs.map pyF) (ys.map pyF) != n)) H
theorem flat_at {A : Around} {s : Shared} {xs : List V} {us : List Value} (r : Vals xs us) (h : xs.all flatV = true) (j : Nat) (hj : j < us.toArray.size) : PyProof.V.Flat us.toArray[j] ((xs.map pyF).getD j .none) := by
  have hj' : j < us.length := by simpa using hj
  have hx : j < xs.length := by rw [r.length]; exact hj'
  rcases vals_get j r with ⟨h1, _⟩ | ⟨x, u, h1, h2, h3⟩
  · rw [List.getElem?_eq_getElem hx] at h1; cases h1
  · have e1 : us.toArray[j] = u := by
      rw [List.getElem?_eq_getElem hj'] at h2
      simpa using h2
    have e2 : (xs.map pyF).getD j .none = pyF x := by simp [List.getD_eq_getElem?_getD, h1]
    rw [e1, e2]
    exact flat_rel (List.all_eq_true.mp h x (List.mem_of_getElem? h1)) h3
section
open PySem.SeqAt
variable {X : Cx}
theorem all_flat {xs ys : List V} {us ws : List Value} (r1 : Vals xs us) (r2 : Vals ys ws) : ((List.range (min us.toArray.size ws.toArray.size)).all (fun j => PyData.eqv ((xs.map pyF).getD j .none) ((ys.map pyF).getD j .none)) && us.toArray.size == ws.toArray.size) = PyData.eqvAll (xs.map pyF) (ys.map pyF) := by
  rw [← eqvAll_eq]
  simp only [List.size_toArray, List.length_map, r1.length, r2.length]
theorem k_eqF (hu : X.A.units + 64 < cLine) : OpR X (compareOp .Eq) (rFlT X.K false) := by
  intro pins s σ H x y v u Q I rx ry h
  obtain ⟨a, b, xs, ys, rfl, rfl, h1, h2, f1, f2, q⟩ := h
  obtain rfl : v = Value.ref a := rx
  obtain rfl : u = Value.ref b := ry
  obtain ⟨its, r1, ht, _⟩ := I.tuple h1
  obtain ⟨its2, r2, ht2, _⟩ := I.tuple h2
  refine eq_tupleAt ht ht2 (by omega) (fun j a1 a2 => PySem.W.keq_flat (flat_at (A := X.A) (s := s) r1 f1 j a1) (flat_at (A := X.A) (s := s) r2 f2 j a2)) ⟨.bl _, H, I, ?_, q⟩
  rw [Bool.bne_false, all_flat r1 r2]
  rfl
theorem k_neF (hu : X.A.units + 64 < cLine) : OpR X (compareOp .NotEq) (rFlT X.K true) := by
  intro pins s σ H x y v u Q I rx ry h
  obtain ⟨a, b, xs, ys, rfl, rfl, h1, h2, f1, f2, q⟩ := h
  obtain rfl : v = Value.ref a := rx
  obtain rfl : u = Value.ref b := ry
  obtain ⟨its, r1, ht, _⟩ := I.tuple h1
  obtain ⟨its2, r2, ht2, _⟩ := I.tuple h2
  refine RcNeAt.tuples ht ht2 (by omega) (fun j a1 a2 => PySem.W.keq_flat (flat_at (A := X.A) (s := s) r1 f1 j a1) (flat_at (A := X.A) (s := s) r2 f2 j a2)) _ _ _ _ ⟨.bl _, H, I, ?_, q⟩
  rw [Bool.bne_true, all_flat r1 r2]
  rfl
end
end Fz
/-! ### sorting, as a function -/
namespace Fz
open PySem PySem.Spec PyProof.Rows L2
section
variable {α : Type} (lt : α → α → Bool)
def isort : List α → List α
  | [] => []
  | x :: r => ins lt x (isort r)
theorem ins_perm (x : α) : ∀ l : List α, (ins lt x l).Perm (x :: l)
  | [] => List.Perm.refl _
  | y :: r => by
    unfold ins
    split
    · exact ((ins_perm x r).cons y).trans (List.Perm.swap x y r)
    · exact List.Perm.refl _
theorem isort_perm : ∀ l : List α, (isort lt l).Perm l
  | [] => List.Perm.refl _
  | x :: r => (ins_perm lt x (isort lt r)).trans ((isort_perm r).cons x)
variable {lt}
theorem ins_pair (ht : ∀ a b c, lt b a = false → lt c b = false → lt c a = false) (ha : ∀ a b, lt a b = true → lt b a = false) (x : α) : ∀ l : List α, l.Pairwise (fun a b => lt b a = false) → (ins lt x l).Pairwise (fun a b => lt b a = false)
  | [], _ => List.pairwise_singleton ..
  | y :: r, h => by
    obtain ⟨h1, h2⟩ := List.pairwise_cons.mp h
    unfold ins
    split
    · rename_i c
      refine List.pairwise_cons.mpr ⟨fun z hz => ?_, ins_pair ht ha x r h2⟩
      rcases List.mem_cons.mp ((ins_perm lt x r).mem_iff.mp hz) with q | q
      · rw [q]; exact ha _ _ c
      · exact h1 z q
    · rename_i c
      have c : lt y x = false := by simpa using c
      refine List.pairwise_cons.mpr ⟨fun z hz => ?_, h⟩
      rcases List.mem_cons.mp hz with q | q
      · rw [q]; exact c
      · exact ht x y z c (h1 z q)
theorem isort_pair (ht : ∀ a b c, lt b a = false → lt c b = false → lt c a = false) (ha : ∀ a b, lt a b = true → lt b a = false) : ∀ l : List α, (isort lt l).Pairwise (fun a b => lt b a = false)
  | [] => List.Pairwise.nil
  | x :: r => ins_pair ht ha x _ (isort_pair ht ha r)
theorem isort_eq (ht : ∀ a b c, lt b a = false → lt c b = false → lt c a = false) (ha : ∀ a b, lt a b = true → lt b a = false) (hs : ∀ a b, lt a b = false → lt b a = false → a = b)
    {l r : List α} (p : l.Perm r) (h : l.Pairwise (fun a b => lt b a = false)) : l = isort lt r :=
  List.Perm.eq_of_pairwise (le := fun a b => lt b a = false) (fun a b _ _ q1 q2 => hs a b q2 q1) h (isort_pair ht ha r) (p.trans (isort_perm lt r).symm)
end
def ltZ (a b : Str) : Bool := ltCps a.cps.toList b.cps.toList
def sortF (l : List Str) : List Str := isort ltZ l
theorem ltZ_iff {a b : Str} : ltZ a b = decide (a.cps.toList < b.cps.toList) := ltCps_eq _ _
theorem ltZ_negtrans (a b c : Str) (h1 : ltZ b a = false) (h2 : ltZ c b = false) : ltZ c a = false := by
  rw [ltZ_iff, decide_eq_false_iff_not] at *
  exact List.not_lt.mpr (List.le_trans (List.not_lt.mp h1) (List.not_lt.mp h2))
theorem ltZ_asymm (a b : Str) (h : ltZ a b = true) : ltZ b a = false := by
  rw [ltZ_iff, decide_eq_true_eq] at h
  rw [ltZ_iff, decide_eq_false_iff_not]
  exact List.lt_asymm h
theorem ltZ_anti (a b : Str) (h1 : ltZ a b = false) (h2 : ltZ b a = false) : a = b := by
  rw [ltZ_iff, decide_eq_false_iff_not] at *
  have e : a.cps.toList = b.cps.toList := List.le_antisymm (List.not_lt.mp h2) (List.not_lt.mp h1)
  cases a
  cases b
  exact congrArg Str.mk (Array.toList_inj.mp e)
theorem risingS_pair : ∀ (p : Str) (l : List Str), risingS p l = true → (p :: l).Pairwise (fun a b => ltZ b a = false)
  | p, [], _ => List.pairwise_singleton ..
  | p, x :: r, h => by
    unfold risingS at h
    rw [Bool.and_eq_true, Bool.not_eq_true'] at h
    have q := risingS_pair x r h.2
    refine List.pairwise_cons.mpr ⟨fun z hz => ?_, q⟩
    have h0 : ltZ x p = false := h.1
    rcases List.mem_cons.mp hz with e | e
    · rw [e]; exact h0
    · exact ltZ_negtrans p x z h0 ((List.pairwise_cons.mp q).1 z e)
theorem sortedS_pair (l : List Str) (h : sortedS l = true) : l.Pairwise (fun a b => ltZ b a = false) := by
  cases l with
  | nil => exact List.Pairwise.nil
  | cons x r => exact risingS_pair x r h
theorem sortF_eq {l r : List Str} (p : l.Perm r) (h : sortedS l = true) : l = sortF r := isort_eq ltZ_negtrans ltZ_asymm ltZ_anti p (sortedS_pair l h)
theorem sortF_perm (l : List Str) : (sortF l).Perm l := isort_perm ltZ l
/-- without doubles -/
def nubS : List Str → List Str
  | [] => []
  | x :: r => if x ∈ r then nubS r else x :: nubS r
theorem nubS_mem : ∀ (l : List Str) (k : Str), k ∈ nubS l ↔ k ∈ l
  | [], k => Iff.rfl
  | x :: r, k => by
    unfold nubS
    split
    · rename_i c
      rw [nubS_mem r k, List.mem_cons]
      exact ⟨.inr, fun z => z.elim (fun e => e ▸ c) id⟩
    · rw [List.mem_cons, List.mem_cons, nubS_mem r k]
theorem nubS_nodup : ∀ l : List Str, (nubS l).Nodup
  | [] => List.nodup_nil
  | x :: r => by
    unfold nubS
    split
    · exact nubS_nodup r
    · rename_i c
      exact List.nodup_cons.mpr ⟨fun z => c ((nubS_mem r x).mp z), nubS_nodup r⟩
theorem perm_of_mem : ∀ {l r : List Str}, l.Nodup → r.Nodup → (∀ k, k ∈ l ↔ k ∈ r) → l.Perm r
  | [], r, _, _, h => by
    cases r with
    | nil => exact List.Perm.refl _
    | cons x r => exact absurd ((h x).mpr (List.mem_cons_self ..)) (by simp)
  | x :: l, r, hl, hr, h => by
    obtain ⟨h1, h2⟩ := List.nodup_cons.mp hl
    have hx : x ∈ r := (h x).mp (List.mem_cons_self ..)
    have p := List.perm_cons_erase hx
    refine List.Perm.trans ?_ p.symm
    refine (perm_of_mem h2 (hr.erase x) fun k => ?_).cons x
    rw [hr.mem_erase_iff]
    constructor
    · intro z
      exact ⟨fun e => h1 (e ▸ z), (h k).mp (List.mem_cons_of_mem _ z)⟩
    · rintro ⟨z1, z2⟩
      rcases List.mem_cons.mp ((h k).mpr z2) with e | e
      · exact absurd e z1
      · exact e
theorem perm_of_len : ∀ {l r : List Str}, l.Nodup → (∀ k ∈ l, k ∈ r) → r.length = l.length → l.Perm r
  | [], r, _, _, h => by
    rw [List.length_nil, List.length_eq_zero_iff] at h
    rw [h]
  | x :: l, r, hl, h, e => by
    obtain ⟨h1, h2⟩ := List.nodup_cons.mp hl
    have hx : x ∈ r := h x (List.mem_cons_self ..)
    have p := List.perm_cons_erase hx
    refine List.Perm.trans ?_ p.symm
    refine (perm_of_len h2 (fun k z => ?_) ?_).cons x
    · have q : k ≠ x := fun q => h1 (q ▸ z)
      exact (List.mem_erase_of_ne q).mpr (h k (List.mem_cons_of_mem _ z))
    · rw [List.length_erase_of_mem hx, e]; rfl
end Fz
/-! ### sorted(set(xs)), xs texts -/
namespace Fz
open PySem PySem.Spec PyProof.Rows L2
open PySem.Froz (SD TxOk addTx sObj tailTx is_str add_ok add_x)
section
variable {P : Program} {w : World} {A : Around} {E : Value → Shared → Prop} {s : Shared}
theorem tail_ris {ep : Nat} {es1 : Array (Int × Value)} {t2 : SetTable} {b : Bool} (r : Ris t2.place.toList) : Ris (tailTx ep es1 t2 b).2.2.place.toList := by
  unfold tailTx
  split
  · exact relayAll_ris _ _ _
  · exact r
theorem tail_led {ep : Nat} {es1 : Array (Int × Value)} {t2 : SetTable} {b : Bool} : (tailTx ep es1 t2 b).2.2.led = t2.led := by
  unfold tailTx
  split
  · exact relayAll_led _ _ _
  · rfl
theorem addTx_ris {D : SD} {h : Int} {v : Value} (r : Ris D.2.2.place.toList) : Ris (addTx h v D).2.2.place.toList := by
  obtain ⟨es, ep, t⟩ := D
  have r1 := layNew_ris t es h v r
  unfold addTx
  refine tail_ris ?_
  split
  · exact r1
  · exact r1
theorem addTx_led {D : SD} {h : Int} {v : Value} : (addTx h v D).2.2.led = D.2.2.led := by
  obtain ⟨es, ep, t⟩ := D
  have r1 := layNew_led t es h v
  unfold addTx
  refine tail_led.trans ?_
  split
  · exact r1
  · exact r1
theorem TxR.add {D : SD} {l : List Str} {k : Str} (u : Tok) (F : TxR P w D l) (hk : k ∉ l) : TxR P w (addTx (hashStr w k) (.str k u) D) (k :: l) :=
  ⟨add_ok u F.ok, addTx_ris F.ris, by rw [addTx_led]; exact F.led, List.nodup_cons.mpr ⟨hk, F.nd⟩⟩
/-- a text that is there is not put in again -/
theorem add_dup {a : Addr} {T : String} {D : SD} {l : List Str} {k : Str} {u : Tok} {Q : Bool → Shared → Prop} (ho : s.heap.get? a = some (sObj T D)) (F : TxOk P w D l) (hk : k ∈ l) (hb : l.length + 1 < scanBound)
    (h : Q false s) : wpAny (model P w) A (setAddHashed a (.str k u) (hashStr w k)) Q E s := by
  obtain ⟨es, ep, t⟩ := D
  have hd : (sObj T (es, ep, t)).data = .set es ep t := rfl
  have hf : t.fits es.size = true := F.fit
  have hel : ElemsOf (PySem.strKind P w) es.toList := F.el
  have hsz : es.size = l.length := F.sz
  have hb0 : es.size < scanBound := by omega
  have hkey : (PySem.strKind P w).is k (.str k u) = true := is_str k u
  have hsome : ∃ j, List.findIdx? (fun e => (PySem.strKind P w).is k e.2) es.toList = some j := by
    cases hr : List.findIdx? (fun e => (PySem.strKind P w).is k e.2) es.toList with
    | some j => exact ⟨j, rfl⟩
    | none =>
      rw [List.findIdx?_eq_none_iff] at hr
      obtain ⟨e, he, z⟩ := (F.mem k).mp hk
      rw [hr e he] at z
      cases z
  obtain ⟨j, hj⟩ := hsome
  unfold setAddHashed setAddHashedIn
  refine wpAny_holding (wpAny_bind (wpAny_setState_of ho hd hf ?_))
  dsimp only
  rw [byScan_of rfl hb0 hel]
  simp only [↓reduceIte]
  unfold setAddByScan
  refine wpAny_bind ?_
  refine wpAny_bind (wpAny_rule ?_)
  refine wpAny_bind (wpAny_setScan_of (knd := PySem.strKind P w) (k := k) hkey ho hd hf hel ?_)
  rw [hj]
  dsimp only
  exact wpAny_pure (wpAny_pure h)
theorem take_nextS {α : Type} {xs : List α} {i : Nat} {x : α} (h : xs[i]? = some x) : xs.take (i + 1) = xs.take i ++ [x] := by
  rw [List.take_add_one, h]; rfl
theorem GotS.same {xs : List Str} {i : Nat} {l : List Str} {x : Str} (g : GotS xs i l) (h : xs[i]? = some x) (c : x ∈ l) : GotS xs (i + 1) l := by
  refine ⟨fun k => ?_, Nat.le_succ_of_le g.len⟩
  rw [take_nextS h, List.mem_append, List.mem_singleton]
  constructor
  · exact fun z => .inl ((g.mem k).mp z)
  · rintro (z | rfl)
    · exact (g.mem k).mpr z
    · exact c
theorem GotS.more {xs : List Str} {i : Nat} {l : List Str} {x : Str} (g : GotS xs i l) (h : xs[i]? = some x) : GotS xs (i + 1) (x :: l) := by
  refine ⟨fun k => ?_, Nat.succ_le_succ g.len⟩
  rw [take_nextS h, List.mem_append, List.mem_singleton, List.mem_cons]
  constructor
  · rintro (z | z)
    · exact .inr z
    · exact .inl ((g.mem k).mp z)
  · rintro (z | z)
    · exact .inr ((g.mem k).mpr z)
    · exact .inl z
theorem txAt_fresh {h : Heap} {a : Addr} (ho : h.get? a = some { cls := .type "set", dict := none, data := .set #[] 0 (.fresh 0 0 (!w.params.followText "set-order")) }) : TxAt P w h a [] := by
  refine ⟨(#[], 0, .fresh 0 0 (!w.params.followText "set-order")), ho, ⟨.nil rfl, ?_, ?_, List.nodup_nil⟩⟩
  · exact (setTR_fresh (P := P) (w := w) ho).tab.ris
  · show _ ∨ (!w.params.followText "set-order") = true
    cases w.params.followText "set-order"
    · exact .inr rfl
    · exact .inl rfl
/-- set.update's loop -/
theorem set_update_txt {I : Addr} {fp wr : List Addr} {G : Array GenState → Array GenState → Prop} {n : Nat} {Pv : Nat → Value → Prop} {St : Nat → Shared → Prop} {R : Result → Shared → Prop}
    (W : WalksS P w A.in1 I fp wr G n Pv St) (S : Addr) (hSf : S ∉ fp) (xs : List Str) (hn : n = xs.length) (hfew : xs.length < 64) (hval : ∀ i v, Pv i v → ∃ x t, xs[i]? = some x ∧ v = .str x t) :
    ∀ (k i : Nat) (s : Shared), n - i = k → i ≤ n → St i s → (∃ l, TxAt P w s.heap S l ∧ GotS xs i l) →
      (∀ s' l, Moved (S :: wr) G s s' → TxAt P w s'.heap S l → GotS xs n l → R (.ok (.ret .none)) s') →
      codeAny (model P w) A (.builtin "set.update.loop" ⟨[.ref S, .ref I], []⟩) R s := by
  have hSw : S ∉ wr := fun h => hSf (W.sub _ h)
  have hsub : ∀ b ∈ wr, b ∈ S :: wr := fun b hb => List.mem_cons_of_mem _ hb
  intro k
  induction k with
  | zero =>
    intro i s hk' hi hst ⟨l, ⟨D, hS, T⟩, g⟩ hR
    have hin : i = n := by omega
    subst hin
    refine codeAny_builtin F.entry_set_update_loop ?_
    rw [Around.under_plainId F.plain_set_update_loop _]
    show wpAny _ A.in1 (pyNext (.ref I) >>= _) _ _ s
    refine wpAny_bind (W.done s _ _ hst fun s' hm => ?_)
    show wpAny _ A.in1 (ret Value.none) _ _ s'
    exact wpAny_pure (hR s' l (hm.mono hsub) ⟨D, hm.heap S _ hSw hS, T⟩ g)
  | succ k ih =>
    intro i s hk' hi hst ⟨l, ⟨D, hS, T⟩, g⟩ hR
    have hlt : i < n := by omega
    refine codeAny_builtin F.entry_set_update_loop ?_
    rw [Around.under_plainId F.plain_set_update_loop _]
    show wpAny _ A.in1 (pyNext (.ref I) >>= _) _ _ s
    refine wpAny_bind (W.item i s _ _ hlt hst fun v s' hP hst' hm => ?_)
    obtain ⟨x, u, hx, rfl⟩ := hval i v hP
    have hS' := hm.heap S _ hSw hS
    show wpAny _ A.in1 (holding [Value.str x u] (setAdd S (.str x u)) >>= _) _ _ s'
    refine wpAny_bind (wpAny_holding ?_)
    unfold setAdd
    refine wpAny_holding ?_
    refine wpAny_bind ((PySem.strKind P w).pyHash (k := x) (is_str _ _) ?_)
    have hb : l.length + 1 < scanBound := by have := g.len; unfold scanBound; omega
    rcases Classical.em (x ∈ l) with c | c
    · refine add_dup (s := { s' with toks := s'.toks + 1 }) hS' T.ok c hb ?_
      refine wpAny_pure ⟨plainId_quiet F.plain_set_update_loop _, ih (i + 1) _ (by omega) hlt (W.frame _ s' _ _ hst' (Nat.le_add_right _ _) fun b hb o e => e) ⟨l, ⟨D, hS', T⟩, g.same hx c⟩ fun s'' l2 hm'' h1 h2 => ?_⟩
      exact hR s'' l2 (Moved.trans W.gtrans ((hm.mono hsub).then_heap (Nat.le_add_right _ _) fun b o hb e => e) hm'') h1 h2
    · refine add_x (s := { s' with toks := s'.toks + 1 }) hS' T.ok c hb ?_
      have hS2 := PySem.Froz.get_upd (sObj "set" (addTx (hashStr w x) (.str x u) D)) hS' rfl
      refine wpAny_pure ⟨plainId_quiet F.plain_set_update_loop _, ih (i + 1) _ (by omega) hlt (W.frame _ s' _ _ hst' (Nat.le_add_right _ _) fun b hb o e => ?_) ⟨x :: l, ⟨_, hS2, T.add u c⟩, g.more hx⟩ fun s'' l2 hm'' h1 h2 => ?_⟩
      · exact PySem.Heap.get?_update_of_ne _ (fun h : S = b => hSf (by rw [h]; exact hb)) e
      · refine hR s'' l2 (Moved.trans W.gtrans ((hm.mono hsub).then_heap (Nat.le_add_right _ _) fun b o hb e => ?_) hm'') h1 h2
        exact PySem.Heap.get?_update_of_ne _ (fun h : S = b => hb (by rw [h]; exact List.mem_cons_self)) e
theorem strs_val {us : List Value} {xs : List Str} (h : StrsAre us xs) (i : Nat) (v : Value) (e : us[i]? = some v) : ∃ x t, xs[i]? = some x ∧ v = .str x t := by
  induction h generalizing i with
  | nil => simp at e
  | cons x t _ ih =>
    cases i with
    | zero => simp at e; exact ⟨x, t, rfl, e.symm⟩
    | succ i =>
      rw [List.getElem?_cons_succ] at e
      obtain ⟨y, q, h1, h2⟩ := ih i e
      exact ⟨y, q, by rw [List.getElem?_cons_succ]; exact h1, h2⟩
set_option maxHeartbeats 3200000 in
/-- set(xs), xs a list or tuple of texts -/
theorem call_set_X {T : String} (hTT : T = "list" ∨ T = "tuple") {l : Addr} {items : Array Value} {xs : List Str} {Q : Value → Shared → Prop} (hh : A.handled = none) (hl : ∃ o, s.heap.get? l = some o ∧ o.cls = .type T ∧ ∃ n, o.data = .seq items n) (hi : StrsAre items.toList xs) (hfew : xs.length < 64)
    (h : ∀ (h' : Heap) (tk : Nat) (ks : List Str), TxAt P w h' s.heap.objs.size ks → GotS xs xs.length ks → (∀ b o, s.heap.get? b = some o → h'.get? b = some o) → Q (.ref s.heap.objs.size) { s with heap := h', toks := tk }) :
    wpAny (model P w) A (call (.type "set") [.ref l]) Q E s := by
  have hisz : items.size = xs.length := by rw [← StrsAre.len_eq hi, Array.length_toList]
  obtain ⟨c, tl, hmro⟩ := PySem.F.called_set.mro
  have hmade := PySem.F.called_set.made
  have hsub := PySem.F.called_set.sub
  refine wpAny_call (codeAny_of_tree ?_)
  show wpAny _ _ (callAny (.type "set") _) _ _ _
  refine wpAny_pure ⟨Code.quiet_builtin _ (by decide +kernel), codeAny_builtin PySem.F.entry_type_call ?_⟩
  rw [Around.under_plain (weight_type_call_type "set" [.ref l] []) rfl]
  have h1 := PySem.F.called_set.notType
  have h2 := PySem.F.called_set.canCreate
  have hct := PySem.F.typeCall_set_1 (.ref l)
  repeat (any_goals (first | assumption | wp_step))

  refine codeAny_mono (code_set_led1 (.ref l) (E := E) (Q₁ := fun obj s₁ => obj = .ref s.heap.objs.size ∧ s₁ = { s with heap := s.heap.push { cls := .type "set", dict := none, data := .set #[] 0 (.fresh 0 0 (!w.params.followText "set-order")) } }) ⟨rfl, rfl⟩) fun r s₁ hr => ?_
  cases r with
  | error e => exact hr
  | ok fl =>
    cases fl with
    | ret obj =>
      obtain ⟨rfl, rfl⟩ := hr
      have hS : (s.heap.push { cls := .type "set", dict := none, data := .set #[] 0 (.fresh 0 0 (!w.params.followText "set-order")) }).get? s.heap.objs.size = some { cls := .type "set", dict := none, data := .set #[] 0 (.fresh 0 0 (!w.params.followText "set-order")) } := Heap.get?_push_size _ rfl
      have hT : Shared.TypeIs { s with heap := s.heap.push { cls := .type "set", dict := none, data := .set #[] 0 (.fresh 0 0 (!w.params.followText "set-order")) } } (.ref s.heap.objs.size) "set" := ⟨_, hS, rfl⟩
      have hli := PySem.F.called_set.init.lookup
      have hbi := PySem.F.called_set.init.bind (.ref s.heap.objs.size)
      repeat (any_goals (first | assumption | wp_step))

      refine codeAny_mono (codeAny_call_builtin (R := wants (fun r s₂ => r = .none ∧ ∃ h' tk ks, s₂ = { s with heap := h', toks := tk } ∧ TxAt P w h' s.heap.objs.size ks ∧ GotS xs xs.length ks ∧
          (∀ b o, s.heap.get? b = some o → h'.get? b = some o)) E) PySem.F.called_set.init.plain PySem.F.entry_set_init (check_set_init_1 hT ?_)) fun r₂ s₂ hr₂ => ?_
      · obtain ⟨ol, hol, hcl, nl, hdl⟩ := hl
        obtain ⟨ocls, odict, odata, oslots⟩ := ol
        simp only at hcl hdl
        subst hcl; subst hdl
        have hol' : (s.heap.push { cls := .type "set", dict := none, data := .set #[] 0 (.fresh 0 0 (!w.params.followText "set-order")) }).get? l = some { cls := .type T, dict := odict, data := .seq items nl, slots := oslots } := Heap.get?_push_of_some _ hol
        have hsls : isSubtype (.type T) (.type "set") = pure false := by
          rcases hTT with rfl | rfl
          · exact PySem.F.sub_list_set
          · exact PySem.F.sub_tuple_set
        have hslf : isSubtype (.type T) (.type "frozenset") = pure false := by
          rcases hTT with rfl | rfl
          · exact PySem.F.sub_list_frozenset
          · exact PySem.F.sub_tuple_frozenset
        have hne : (Value.type T == Value.type "dict") = false := by
          rcases hTT with rfl | rfl <;> decide
        unfold Builtin.«set.__init__» noKeywords Builtin.Frozenset.updateFrom
        generalize hPI : pyIter = PI
        wp_walk
        subst hPI

        rcases hTT with rfl | rfl
        · have hl1 : (s.heap.push { cls := .type "set", dict := none, data := .set #[] 0 (.fresh 0 0 (!w.params.followText "set-order")) }).IsList l items := ⟨_, hol', rfl, nl, rfl⟩
          refine wpAny_pyIter_list hl1 ?_
          refine wpAny_bind (wpAny_runValue ?_)
          have hlS : l < s.heap.objs.size := Heap.lt_size hol
          have hh3 : A.in1.in1.in1.handled = none := by simp [hh]
          have hneI : l ≠ (s.heap.push { cls := .type "set", dict := none, data := .set #[] 0 (.fresh 0 0 (!w.params.followText "set-order")) }).objs.size := by
            rw [Heap.size_push]; exact Nat.ne_of_lt (Nat.lt_succ_of_lt hlS)
          have hSf : s.heap.objs.size ∉ [(s.heap.push { cls := .type "set", dict := none, data := .set #[] 0 (.fresh 0 0 (!w.params.followText "set-order")) }).objs.size, l] := by
            rw [Heap.size_push]; simp only [List.mem_cons, List.mem_singleton, List.not_mem_nil, or_false, not_or]
            exact ⟨Nat.ne_of_lt (Nat.lt_succ_self _), Nat.ne_of_gt hlS⟩
          have hval : ∀ (i : Nat) (v : Value), items[i]? = some v → ∃ x t, xs[i]? = some x ∧ v = .str x t := fun i v hv => strs_val hi i v (by rw [Array.getElem?_toList]; exact hv)
          refine set_update_txt ((Walks.list hh3 _ l hneI items).toS) s.heap.objs.size
            hSf xs hisz hfew hval (items.size - 0) 0 _ (by omega) (Nat.zero_le _)
            ⟨⟨_, Heap.get?_push_size _ rfl, rfl, rfl⟩, (hl1.push _)⟩ ?hS0 ?hR
          case hS0 =>
            have hget : ((s.heap.push { cls := .type "set", dict := none, data := .set #[] 0 (.fresh 0 0 (!w.params.followText "set-order")) }).push { cls := .type "list_iterator", data := .fields #[.ref l, .int 0 0] }).get? s.heap.objs.size
                = some { cls := .type "set", dict := none, data := .set #[] 0 (.fresh 0 0 (!w.params.followText "set-order")) } := Heap.get?_push_of_some _ hS
            exact ⟨[], txAt_fresh hget, GotS.zero xs⟩
          case hR =>
            intro s' ks hm hS' g'
            obtain ⟨h', g2, d', tk', os'⟩ := s'
            have eg : g2 = s.gens := hm.gens
            have ed : d' = s.drawn := hm.drawn
            have eo : os' = s.os := hm.os
            subst eg; subst ed; subst eo
            show wpAny _ _ _ _ _ _
            refine wpAny_pure ?_
            show wpAny _ _ (ret Value.none) _ _ _
            rw [hisz] at g'
            refine wpAny_pure ⟨rfl, h', tk', ks, rfl, hS', g', fun b o e => ?_⟩
            have hb := Heap.lt_size e
            have hb1 : b ≠ s.heap.objs.size := Nat.ne_of_lt hb
            have hb2 : b ≠ (s.heap.push { cls := .type "set", dict := none, data := .set #[] 0 (.fresh 0 0 (!w.params.followText "set-order")) }).objs.size := by
              rw [Heap.size_push]; exact Nat.ne_of_lt (Nat.lt_succ_of_lt hb)
            exact hm.heap b o (by simp only [List.mem_cons, List.mem_singleton, List.not_mem_nil, or_false, not_or]; exact ⟨hb1, hb2⟩) (Heap.get?_push_of_some _ (Heap.get?_push_of_some _ e))
        · have hl1 : (s.heap.push { cls := .type "set", dict := none, data := .set #[] 0 (.fresh 0 0 (!w.params.followText "set-order")) }).IsTuple l items := ⟨_, hol', rfl, nl, rfl⟩
          refine wpAny_pyIter_tuple hl1 ?_
          refine wpAny_bind (wpAny_runValue ?_)
          have hlS : l < s.heap.objs.size := Heap.lt_size hol
          have hh3 : A.in1.in1.in1.handled = none := by simp [hh]
          have hneI : l ≠ (s.heap.push { cls := .type "set", dict := none, data := .set #[] 0 (.fresh 0 0 (!w.params.followText "set-order")) }).objs.size := by
            rw [Heap.size_push]; exact Nat.ne_of_lt (Nat.lt_succ_of_lt hlS)
          have hSf : s.heap.objs.size ∉ [(s.heap.push { cls := .type "set", dict := none, data := .set #[] 0 (.fresh 0 0 (!w.params.followText "set-order")) }).objs.size, l] := by
            rw [Heap.size_push]; simp only [List.mem_cons, List.mem_singleton, List.not_mem_nil, or_false, not_or]
            exact ⟨Nat.ne_of_lt (Nat.lt_succ_self _), Nat.ne_of_gt hlS⟩
          have hval : ∀ (i : Nat) (v : Value), items[i]? = some v → ∃ x t, xs[i]? = some x ∧ v = .str x t := fun i v hv => strs_val hi i v (by rw [Array.getElem?_toList]; exact hv)
          refine set_update_txt ((Walks.tuple hh3 _ l hneI items).toS) s.heap.objs.size
            hSf xs hisz hfew hval (items.size - 0) 0 _ (by omega) (Nat.zero_le _)
            ⟨⟨_, Heap.get?_push_size _ rfl, rfl, rfl⟩, (hl1.push _)⟩ ?hS0 ?hR
          case hS0 =>
            have hget : ((s.heap.push { cls := .type "set", dict := none, data := .set #[] 0 (.fresh 0 0 (!w.params.followText "set-order")) }).push { cls := .type "tuple_iterator", data := .fields #[.ref l, .int 0 0] }).get? s.heap.objs.size
                = some { cls := .type "set", dict := none, data := .set #[] 0 (.fresh 0 0 (!w.params.followText "set-order")) } := Heap.get?_push_of_some _ hS
            exact ⟨[], txAt_fresh hget, GotS.zero xs⟩
          case hR =>
            intro s' ks hm hS' g'
            obtain ⟨h', g2, d', tk', os'⟩ := s'
            have eg : g2 = s.gens := hm.gens
            have ed : d' = s.drawn := hm.drawn
            have eo : os' = s.os := hm.os
            subst eg; subst ed; subst eo
            show wpAny _ _ _ _ _ _
            refine wpAny_pure ?_
            show wpAny _ _ (ret Value.none) _ _ _
            rw [hisz] at g'
            refine wpAny_pure ⟨rfl, h', tk', ks, rfl, hS', g', fun b o e => ?_⟩
            have hb := Heap.lt_size e
            have hb1 : b ≠ s.heap.objs.size := Nat.ne_of_lt hb
            have hb2 : b ≠ (s.heap.push { cls := .type "set", dict := none, data := .set #[] 0 (.fresh 0 0 (!w.params.followText "set-order")) }).objs.size := by
              rw [Heap.size_push]; exact Nat.ne_of_lt (Nat.lt_succ_of_lt hb)
            exact hm.heap b o (by simp only [List.mem_cons, List.mem_singleton, List.not_mem_nil, or_false, not_or]; exact ⟨hb1, hb2⟩) (Heap.get?_push_of_some _ (Heap.get?_push_of_some _ e))

      · cases r₂ with
        | error e => exact hr₂
        | ok fl₂ =>
          cases fl₂ with
          | ret r =>
            obtain ⟨rfl, h', tk, ks, rfl, hS', g', hk'⟩ := hr₂
            repeat (any_goals (first | assumption | wp_step))
            exact h _ _ _ hS' g' hk'
          | _ => exact hr₂.elim
    | _ => exact hr.elim
end
end Fz
/-! ### the rules -/
namespace Fz
open PySem PySem.Spec PyProof.Rows L2
open PySem.Froz (SD TxOk addTx sObj tailTx is_str add_ok add_x)
def TxO (P : Program) (w : World) (a : Addr) (l : List Str) : HO := .ext fun h => TxAt P w h a l
theorem txO_new {w : World} {P : Program} {H : Hp} {h : Heap} {a : Addr} {l : List Str} (R : TxAt P w h a l) : ObjOk P w H h a (TxO P w a l) := by
  have ⟨D, ho, _⟩ := R
  exact ⟨R, ⟨_, ho⟩, fun h1 h2 p k => TxAt.at p k⟩
/-- set(xs), xs texts -/
def cSetX (K : PySem.W.Frag) (P : Program) (w : World) : List V → Hp → VK → Prop := fun vs H Q => ∃ (a : Addr) (xs : List Str), vs = [V.ref a] ∧ (SqL K H a (xs.map V.str) ∨ SqT K H a (xs.map V.str)) ∧ xs.length < 64 ∧
  ∀ (p : Addr) (ks : List Str), ks.Perm (nubS xs) → H p = none → Q (.ref p) (upd H p (TxO P w p ks))
theorem GotS.perm {xs ks : List Str} (g : GotS xs xs.length ks) (h : ks.Nodup) : ks.Perm (nubS xs) :=
  perm_of_mem h (nubS_nodup xs) fun k => by rw [g.mem k, nubS_mem, List.take_length]
theorem k_setX {X : Cx} {K : PySem.W.Frag} (e : X.K = K) (hc : X.calm = true) : CallR X (.type "set") (cSetX K X.prog X.w) := by
  subst e
  intro pins s σ H vs us Q I r h
  obtain ⟨a, xs, rfl, hs, h64, q⟩ := h
  rw [Vals.ref1 r]
  rcases hs with hs | hs
  · obtain ⟨its, rv, hl, _⟩ := I.list hs
    refine call_set_X (.inl rfl) (I.ok.hd hc) hl.isList rv.strs h64 fun h' tk ks hS g k => ?_
    exact ⟨.ref _, upd H s.heap.objs.size (TxO X.prog X.w s.heap.objs.size ks), I.laid (t' := tk) k (Nat.le_refl _) (txO_new hS), rfl, q _ ks (g.perm (by obtain ⟨D, _, T⟩ := hS; exact T.nd)) (I.hok.fresh (Nat.le_refl _))⟩
  · obtain ⟨its, rv, hl, _⟩ := I.tuple hs
    refine call_set_X (.inr rfl) (I.ok.hd hc) hl rv.strs h64 fun h' tk ks hS g k => ?_
    exact ⟨.ref _, upd H s.heap.objs.size (TxO X.prog X.w s.heap.objs.size ks), I.laid (t' := tk) k (Nat.le_refl _) (txO_new hS), rfl, q _ ks (g.perm (by obtain ⟨D, _, T⟩ := hS; exact T.nd)) (I.hok.fresh (Nat.le_refl _))⟩
theorem strs_shape : ∀ (vs : List Value), (∀ v ∈ vs, ∃ k t, v = Value.str k t) → ∃ ys, StrsAre vs ys
  | [], _ => ⟨[], .nil⟩
  | v :: vs, h => by
    obtain ⟨k, t, e⟩ := h v (List.mem_cons_self ..)
    obtain ⟨ys, q⟩ := strs_shape vs fun u hu => h u (List.mem_cons_of_mem _ hu)
    exact ⟨k :: ys, e ▸ .cons k t q⟩
theorem strs_mem {vs : List Value} {ys : List Str} (h : StrsAre vs ys) {k : Str} {t : Tok} (m : Value.str k t ∈ vs) : k ∈ ys := by
  induction h with
  | nil => simp at m
  | cons x u _ ih =>
    rcases List.mem_cons.mp m with e | e
    · cases e; exact List.mem_cons_self ..
    · exact List.mem_cons_of_mem _ (ih e)
/-- sorted(s), s a set of fewer than 64 texts -/
def cSortX (P : Program) (w : World) : List V → Hp → VK → Prop := fun vs H Q => ∃ (a : Addr) (ks : List Str), vs = [V.ref a] ∧ H a = some (TxO P w a ks) ∧ ks.length < 64 ∧ NewQ H (.lst ((sortF ks).map V.str)) Q
theorem k_sortX {X : Cx} (hc : X.calm = true) : CallR X (.builtin "sorted") (cSortX X.prog X.w) := by
  intro pins s σ H vs us Q I r h
  obtain ⟨a, ks, rfl, ha, h64, q⟩ := h
  rw [Vals.ref1 r]
  obtain ⟨D, ho, T⟩ : TxAt X.prog X.w s.heap a ks := (I.hok a _ ha).1
  obtain ⟨es, ep, t⟩ := D
  have hsz : es.size = ks.length := T.ok.sz
  refine Calls.call_function_entry PyProof.Rows.kind_sorted PyProof.Rows.plain_sorted PyProof.Rows.entry_sorted (PyProof.Rows.args_sorted1 _) ?_
  unfold Builtin.«sorted»
  refine wpAny_bind (m := checkCount "sorted" 1 1 _) (wpAny_pure ?_)
  refine wpAny_bind (collect_set (A := X.A.in1) (I.ok.hd hc) ⟨_, ho, rfl, rfl⟩ T.ok.fit (by rw [hsz]; unfold scanBound; omega) T.ris T.led fun s1 vs k1 hz g1 o1 pm => ?_)
  have hvl : vs.length = ks.length := by rw [pm.length_eq, List.length_map, Array.length_toList]; exact hsz
  obtain ⟨ys, hS⟩ := strs_shape vs fun v hv => by
    obtain ⟨e, he, q⟩ := List.mem_map.mp (pm.mem_iff.mp hv)
    obtain ⟨⟨k, h1, _⟩, _⟩ := T.ok.el e he
    obtain ⟨t, ht⟩ := Value.isStrOf_shape h1
    exact ⟨k, t, by rw [← q]; exact ht⟩
  have hyl : ys.length = ks.length := by rw [← hvl, StrsAre.len_eq hS]
  have pk : ks.Perm ys := perm_of_len T.nd (fun k hk => by
    obtain ⟨e, he, q⟩ := (T.ok.mem k).mp hk
    obtain ⟨t, ht⟩ := Value.isStrOf_shape q
    refine strs_mem (k := k) (t := t) hS (pm.mem_iff.mpr ?_)
    exact List.mem_map.mpr ⟨e, he, ht⟩) hyl
  refine wpAny_bind (wpAny_newList ?_ (by rw [hvl, sizeLine_eq]; omega))
  have hoL : (s1.heap.push (seqObj "list" vs.toArray 0)).get? s1.heap.objs.size = some (seqObj "list" vs.toArray 0) := Heap.get?_push_size _ rfl
  refine wpAny_bind (wpAny_holding (wpAny_call_entry PyProof.Rows.slot_list_sort ⟨_, hoL, rfl⟩ PyProof.Rows.entry_list_sort
    (list_sort_treeK strKind_oneLt (s := { s1 with heap := s1.heap.push (seqObj "list" vs.toArray 0) }) hoL hS.keysOf (fun v₁ v₂ rest e => keyKind_strs (by rw [← e]; exact hS)) (by rw [hvl]; exact h64) fun st' hp hs => ⟨_, rfl, ?_⟩)
    (PyProof.Rows.args_list_sort _)))
  obtain ⟨zs, y1, y2, y3⟩ := sorted_out_str hS hp hs
  obtain ⟨c, hg⟩ := PyProof.Rows.sortedHeap_at (vs := vs) (out := (arrOf st').map (·.2)) hoL
  have ez : zs = sortF ks := sortF_eq (y2.trans pk.symm) y3
  subst ez
  have hlen : ((sortF ks).map V.str).length ≤ sizeLine := by rw [List.length_map, (sortF_perm ks).length_eq, sizeLine_eq]; omega
  have hn : H s1.heap.objs.size = none := I.hok.fresh hz
  have kk : ∀ b u, s.heap.get? b = some u → (sortedHeap (s1.heap.push (seqObj "list" vs.toArray 0)) s1.heap.objs.size vs ((arrOf st').map (·.2))).get? b = some u := fun b u e => by
    have q := k1 b u e
    have hlt := Heap.lt_size q
    rw [sortedHeap_old (Nat.ne_of_lt hlt) (by rw [size_push']; exact Nat.lt_succ_of_lt hlt)]
    exact Heap.get?_push_of_some _ q
  have J : Inv X pins σ (upd H s1.heap.objs.size (.lst ((sortF ks).map V.str))) { s with heap := sortedHeap (s1.heap.push (seqObj "list" vs.toArray 0)) s1.heap.objs.size vs ((arrOf st').map (·.2)), gens := s1.gens, drawn := s1.drawn, toks := s1.toks } :=
    I.call (ch := []) (Un.laid kk hz hn) (I.hok.laid kk hz ⟨hlen, ((arrOf st').map (·.2)).toList, c, vals_of_strs y1, by rw [Array.toArray_toList]; exact hg⟩) (by rw [g1]; exact I.bare) (fun _ z => nomatch z)
  cases s1
  cases s
  cases o1
  exact wpAny_pure ⟨_, rfl, .ref _, _, J, rfl, NewQ.at q _ hn⟩
end Fz
/-! ### plain values and a plain store: what defs compute, as functions -/
namespace Dz
open PySem PySem.Spec PyProof.Rows L2 Fz
def Res.bind {α β : Type} (r : Res α) (k : α → Store → Res β) : Res β := match r with
  | .ok a S => k a S
  | .exc c fs S => .exc c fs S
  | .bad => .bad
abbrev Fe := Env → Store → Res D
abbrev Fn := List D → Store → Res D
/-! ### how they stand in the heap -/
theorem FzL.sq {K : PySem.W.Frag} {H : Hp} {a : Addr} {vs : List V} (h : FzL K H a vs) : SqL K H a vs := h.elim (fun ⟨o, e⟩ => .inl (.inr ⟨o, e⟩)) .inr
section
variable {K : PySem.W.Frag} {m m' m1 m2 : List Addr} {H H' H1 H2 : Hp} {a : Addr} {vs : List V} {xs ys : List D} {v : V} {d : D}
theorem Ext.refl : Ext m H m H := ⟨fun _ _ e => e, Tu.refl H⟩
theorem Ext.same (s : Same H H') : Ext m H m H' := ⟨fun _ _ e => e, Tu.of s⟩
theorem RVs.append : ∀ {xs ys : List D} {vs ws : List V}, RVs K m H xs vs → RVs K m H ys ws → RVs K m H (xs ++ ys) (vs ++ ws)
  | _, _, _, _, .nil, s => s
  | _, _, _, _, .cons r t, s => .cons r (t.append s)
theorem RVs.take : ∀ {xs : List D} {vs : List V} (n : Nat), RVs K m H xs vs → RVs K m H (xs.take n) (vs.take n)
  | _, _, 0, _ => .nil
  | _, _, _ + 1, .nil => .nil
  | _, _, n + 1, .cons r t => .cons r (t.take n)
theorem RVs.drop : ∀ {xs : List D} {vs : List V} (n : Nat), RVs K m H xs vs → RVs K m H (xs.drop n) (vs.drop n)
  | _, _, 0, h => h
  | _, _, _ + 1, .nil => .nil
  | _, _, n + 1, .cons _ t => t.drop n
theorem RVs.rev {xs : List D} {vs : List V} (h : RVs K m H xs vs) : RVs K m H xs.reverse vs.reverse := by
  induction h using RVs.rec (motive_1 := fun _ _ _ => True) with
  | nil => exact .nil
  | cons h _ _ ih => rw [List.reverse_cons, List.reverse_cons]; exact ih.append (.cons h .nil)
  | _ => trivial
end
section
variable {K : PySem.W.Frag} {m m' : List Addr} {S S' : Store} {H H' : Hp} {a p : Addr} {o : MO} {i : Nat}
theorem RO.ne (h : RO K m H a o) : H a ≠ none := by
  cases o with
  | lst _ => obtain ⟨vs, e, _⟩ := h; rw [e]; exact fun z => nomatch z
  | dict _ => obtain ⟨vs, e, _⟩ := h; rw [e]; exact fun z => nomatch z
  | fdict _ => obtain ⟨_, vs, e, _⟩ := h; rw [e]; exact fun z => nomatch z
  | inst _ _ => obtain ⟨_, vs, e, _⟩ := h; rw [e]; exact fun z => nomatch z
theorem Rl.tracked (R : Rl K m S H) (h : m[i]? = some a) : H a ≠ none := by
  have hi : i < m.length := (List.getElem?_eq_some_iff.mp h).1
  have hS : i < S.length := by rw [← R.len]; exact hi
  exact (R.at_ i a _ h (List.getElem?_eq_getElem hS)).ne
theorem Rl.same (R : Rl K m S H) (s : Same H H') : Rl K m S H' := ⟨R.len, R.inj, fun i a o e f => (R.at_ i a o e f).keep (fun u => s a u) (.same s)⟩
theorem ext_new : (∀ (i : Nat) (a : Addr), m[i]? = some a → (m ++ [p])[i]? = some a) := fun i a e => by
  have hi : i < m.length := (List.getElem?_eq_some_iff.mp e).1
  rw [List.getElem?_append_left hi]
  exact e
theorem Ext.new (s : Same H H') : Ext m H (m ++ [p]) H' := ⟨ext_new, Tu.of s⟩
theorem Rl.new (R : Rl K m S H) (n : H p = none) (s : Same H H') (h : RO K (m ++ [p]) H' p o) : Rl K (m ++ [p]) (S ++ [o]) H' := by
  have ap : ∀ (i : Nat) (a : Addr), (m ++ [p])[i]? = some a → (m[i]? = some a) ∨ (i = m.length ∧ a = p) := fun i a e => by
    by_cases hi : i < m.length
    · rw [List.getElem?_append_left hi] at e
      exact .inl e
    · rw [List.getElem?_append_right (by omega)] at e
      cases q : i - m.length with
      | zero => rw [q] at e; simp at e; exact .inr ⟨by omega, e.symm⟩
      | succ k => rw [q] at e; simp at e
  have np : ∀ i : Nat, m[i]? ≠ some p := fun i e => R.tracked e n
  refine ⟨by rw [List.length_append, List.length_append, R.len]; rfl, fun i j a e1 e2 => ?_, fun i a u e1 e2 => ?_⟩
  · rcases ap i a e1 with h1 | ⟨h1, rfl⟩ <;> rcases ap j a e2 with h2 | ⟨h2, h3⟩
    · exact R.inj i j a h1 h2
    · subst h3; exact absurd h1 (np i)
    · exact absurd h2 (np j)
    · omega
  · rcases ap i a e1 with h1 | ⟨h1, rfl⟩
    · have hi : i < m.length := (List.getElem?_eq_some_iff.mp h1).1
      rw [List.getElem?_append_left (by rw [← R.len]; exact hi)] at e2
      exact (R.at_ i a u h1 e2).keep (fun u => s a u) (.new s)
    · rw [h1, R.len, List.getElem?_append_right (Nat.le_refl _), Nat.sub_self] at e2
      simp at e2
      subst e2
      exact h
end
theorem RO1.mono {K : PySem.W.Frag} {m m' : List Addr} {H H' : Hp} (x : Ext m H m' H') : ∀ {v : Option V} {d : Option D}, RO1 K m H v d → RO1 K m' H' v d
  | some _, some _, h => RV.mono x h
  | none, none, _ => trivial
  | some _, none, h => h.elim
  | none, some _, h => h.elim
section
variable {K : PySem.W.Frag} {m m' m1 : List Addr} {H H' H1 : Hp} {σ : L2.St} {ρ : Env}
theorem En.mono (h : En K m H σ ρ) (x : Ext m H m' H') : En K m' H' σ ρ := paired_mono (fun _ _ z => RO1.mono x z) h
theorem En.setN (h : En K m H σ ρ) (i : Nat) : En K m H (σ.set i none) (ρ.set i none) := paired_set (F := RO1 K m H) (x := none) (y := none) trivial i h
def wipeE (ρ : Env) : List Nat → Env
  | [] => ρ
  | v :: vs => (wipeE ρ vs).set v none
theorem En.wipe (h : En K m H σ ρ) : ∀ vs : List Nat, En K m H (wipe σ vs) (wipeE ρ vs)
  | [] => h
  | v :: vs => (h.wipe vs).setN v
end
/-! ### pairs: looked up, put, dropped -/
def putD {κ : Type} [DecidableEq κ] (kvs : List (κ × D)) (k : κ) (v : D) : List (κ × D) := if (kvs.any fun kv => decide (kv.1 = k)) = true then kvs.map (fun kv => if kv.1 = k then (kv.1, v) else kv) else kvs ++ [(k, v)]
def dropD {κ : Type} [DecidableEq κ] (kvs : List (κ × D)) (k : κ) : List (κ × D) := kvs.filter fun kv => decide (kv.1 ≠ k)
def mergeD (kvs more : List (Key × D)) : List (Key × D) := more.foldl (fun acc kv => putD acc kv.1 kv.2) kvs
section
variable {κ : Type} [DecidableEq κ] {K : PySem.W.Frag} {m : List Addr} {H : Hp}
theorem RKV.any {kvs : List (κ × D)} {es : List (κ × V)} (k : κ) (h : RKV K m H kvs es) : (kvs.any fun kv => decide (kv.1 = k)) = (es.any fun kv => decide (kv.1 = k)) := by
  induction h with
  | nil => rfl
  | cons h t ih => rw [List.any_cons, List.any_cons, h.1, ih]
theorem RKV.put {kvs : List (κ × D)} {es : List (κ × V)} {d : D} {v : V} (k : κ) (h : RKV K m H kvs es) (r : RV K m H d v) : RKV K m H (putD kvs k d) (putK es k v) := by
  unfold putD putK
  rw [h.any k]
  split
  · induction h with
    | nil => exact .nil
    | @cons p q ps qs h t ih =>
      rename_i hh
      rw [List.map_cons, List.map_cons]
      refine .cons ?_ ?_
      · obtain ⟨p1, p2⟩ := p
        obtain ⟨q1, q2⟩ := q
        obtain ⟨e, r'⟩ := h
        simp only at e
        subst e
        simp only
        split
        · exact ⟨rfl, r⟩
        · exact ⟨rfl, r'⟩
      · clear ih hh
        induction t with
        | nil => exact .nil
        | @cons p q ps qs h t ih =>
          rw [List.map_cons, List.map_cons]
          refine .cons ?_ ih
          obtain ⟨p1, p2⟩ := p
          obtain ⟨q1, q2⟩ := q
          obtain ⟨e, r'⟩ := h
          simp only at e
          subst e
          simp only
          split
          · exact ⟨rfl, r⟩
          · exact ⟨rfl, r'⟩
  · exact paired_append h (.cons ⟨rfl, r⟩ .nil)
theorem RKV.drop {kvs : List (κ × D)} {es : List (κ × V)} (k : κ) (h : RKV K m H kvs es) : RKV K m H (dropD kvs k) (dropK es k) := by
  unfold dropD dropK
  induction h with
  | nil => exact .nil
  | @cons p q ps qs h t ih =>
    rw [List.filter_cons, List.filter_cons, h.1]
    split
    · exact .cons h ih
    · exact ih
end
end Dz
/-! ### readings by functions -/
namespace Dz
open PySem PySem.Spec PyProof.Rows L2 Fz
abbrev RB (α : Type) : List Addr → Hp → α → α → Prop := fun _ _ a b => a = b
def PR {α β : Type} (K : PySem.W.Frag) (R : List Addr → Hp → α → β → Prop) (W : WX) (m : List Addr) (σ : L2.St) (H : Hp) (r : Res α) (Q : β → Hp → Prop) : Prop := match r with
  | .ok d S' => ∀ m' H' v, Rl K m' S' H' → Ext m H m' H' → R m' H' d v → Q v H'
  | .exc c fs S' => ∀ m' H' dd es, Rl K m' S' H' → Ext m H m' H' → H' dd = some (.xd es) → RKV K m' H' fs es → W (.ref (He.ga K c)) (some dd) σ H'
  | .bad => False
/-- what is known besides: of the names as they stand, of a heap ahead -/
structure Gd where
  g : L2.St → Prop
  j : List Addr → Hp → Prop
def G0 : Gd := ⟨fun _ => True, fun _ _ => True⟩
structure Pre (K : PySem.W.Frag) (G : Gd) (m : List Addr) (ρ : Env) (S : Store) (σ : L2.St) (H : Hp) : Prop where
  g : G.g σ
  past : ∃ m0 H0, G.j m0 H0 ∧ Ext m0 H0 m H
  rl : Rl K m S H
  en : En K m H σ ρ
def LX {α β : Type} (K : PySem.W.Frag) (R : List Addr → Hp → α → β → Prop) (G : Gd) (W : WX) (f : Env → Store → Res α) (σ : L2.St) (H : Hp) (Q : β → Hp → Prop) : Prop :=
  ∃ m ρ S, Pre K G m ρ S σ H ∧ PR K R W m σ H (f ρ S) Q
abbrev LE (K : PySem.W.Frag) (G : Gd) (W : WX) (f : Fe) : TE := LX K (RV K) G W f
abbrev LA (K : PySem.W.Frag) (G : Gd) (W : WX) (f : Env → Store → Res (List D)) : TA := LX K (RVs K) G W f
abbrev LT (K : PySem.W.Frag) (G : Gd) (W : WX) (f : Env → Store → Res Bool) : TT := LX K (RB Bool) G W f
section
variable {α β γ δ : Type} {K : PySem.W.Frag} {R : List Addr → Hp → α → β → Prop} {R2 : List Addr → Hp → γ → δ → Prop} {W : WX} {G : Gd} {m m1 : List Addr} {σ : L2.St} {H H1 : Hp} {r : Res α} {Q Q' : β → Hp → Prop} {ρ : Env} {S : Store}
theorem PR.mono (h : PR K R W m σ H r Q) (q : ∀ v H', Q v H' → Q' v H') : PR K R W m σ H r Q' := by
  cases r with
  | ok d S' => exact fun m' H' v a b c => q _ _ (h m' H' v a b c)
  | exc c fs S' => exact h
  | bad => exact h
theorem PR.shift (h : PR K R W m σ H r Q) (x : Ext m H m1 H1) : PR K R W m1 σ H1 r Q := by
  cases r with
  | ok d S' => exact fun m' H' v a b c => h m' H' v a (x.trans b) c
  | exc c fs S' => exact fun m' H' dd es a b => h m' H' dd es a (x.trans b)
  | bad => exact h
theorem PR.bind {k : α → Store → Res γ} {Q : δ → Hp → Prop} (h : PR K R2 W m σ H (r.bind k) Q) : PR K R W m σ H r (fun x H1 => ∃ m1 S1 d, Rl K m1 S1 H1 ∧ Ext m H m1 H1 ∧ R m1 H1 d x ∧ PR K R2 W m1 σ H1 (k d S1) Q) := by
  cases r with
  | ok d S' => exact fun m' H' v a b c => ⟨m', S', d, a, b, c, PR.shift h b⟩
  | exc c fs S' => exact h
  | bad => exact h
theorem Pre.go (p : Pre K G m ρ S σ H) {S1 : Store} (x : Ext m H m1 H1) (rl : Rl K m1 S1 H1) : Pre K G m1 ρ S1 σ H1 := ⟨p.g, let ⟨a, b, c, d⟩ := p.past; ⟨a, b, c, d.trans x⟩, rl, p.en.mono x⟩
theorem Pre.to (p : Pre K G m ρ S σ H) {ρ1 : Env} {S1 : Store} {σ1 : L2.St} (x : Ext m H m1 H1) (g : G.g σ1) (rl : Rl K m1 S1 H1) (en : En K m1 H1 σ1 ρ1) : Pre K G m1 ρ1 S1 σ1 H1 := ⟨g, let ⟨a, b, c, d⟩ := p.past; ⟨a, b, c, d.trans x⟩, rl, en⟩
theorem LX.mono {f : Env → Store → Res α} (h : LX K R G W f σ H Q) (q : ∀ v H', Q v H' → Q' v H') : LX K R G W f σ H Q' := let ⟨m, ρ, S, p, z⟩ := h; ⟨m, ρ, S, p, z.mono q⟩
theorem LX.step {f : Env → Store → Res α} {k : Env → α → Store → Res γ} {Q : δ → Hp → Prop} (h : LX K R2 G W (fun ρ S => (f ρ S).bind (k ρ)) σ H Q) :
    LX K R G W f σ H (fun x H1 => ∃ m1 ρ S1 d, Pre K G m1 ρ S1 σ H1 ∧ R m1 H1 d x ∧ PR K R2 W m1 σ H1 (k ρ d S1) Q) := by
  obtain ⟨m, ρ, S, p, h⟩ := h
  exact ⟨m, ρ, S, p, h.bind.mono fun x H1 ⟨m1, S1, d, a, b, c, q⟩ => ⟨m1, ρ, S1, d, p.go b a, c, q⟩⟩
end
theorem PT.le {X : Cx} {e : Expr} {t t' : TT} (h : PT X e t) (m : ∀ σ H Q, t' σ H Q → t σ H Q) : PT X e t' := ⟨fun pins s σ H Q I q => h.run pins s σ H Q I (m _ _ _ q)⟩
theorem PW.le {X : Cx} {e : Expr} {t t' : TT} (h : PW X e t) (m : ∀ σ H Q, t' σ H Q → t σ H Q) : PW X e t' := ⟨fun wh pins s σ H Q I q => h.run wh pins s σ H Q I (m _ _ _ q)⟩
theorem PA.le {X : Cx} {es : List Expr} {t t' : TA} (h : PA X es t) (m : ∀ σ H Q, t' σ H Q → t σ H Q) : PA X es t' := ⟨fun pos pins s σ H Q I q => h.run pos pins s σ H Q I (m _ _ _ q)⟩
theorem PS.le {X : Cx} {e : Stmt} {t t' : TS} (h : PS X e t) (m : ∀ D σ H, t' D σ H → t D σ H) : PS X e t' := ⟨fun pins s σ H Q I q => h.run pins s σ H Q I (m _ _ _ q)⟩
theorem PSs.le {X : Cx} {e : List Stmt} {t t' : TS} (h : PSs X e t) (m : ∀ D σ H, t' D σ H → t D σ H) : PSs X e t' := ⟨fun pins s σ H Q I q => h.run pins s σ H Q I (m _ _ _ q)⟩
theorem PE.or {X : Cx} {e : Expr} {t u : TE} (h : PE X e t) (k : PE X e u) : PE X e (fun σ H Q => t σ H Q ∨ u σ H Q) := ⟨fun pins s σ H Q I q => q.elim (h.run pins s σ H Q I) (k.run pins s σ H Q I)⟩
theorem OpR.or {X : Cx} {f : Value → Value → Sem Value} {r r' : R2} (h : OpR X f r) (k : OpR X f r') : OpR X f (fun x y H Q => r x y H Q ∨ r' x y H Q) := fun pins s σ H x y v u Q I a b q => q.elim (h pins s σ H x y v u Q I a b) (k pins s σ H x y v u Q I a b)
theorem CallR.or {X : Cx} {f : Value} {r r' : List V → Hp → VK → Prop} (h : CallR X f r) (k : CallR X f r') : CallR X f (fun xs H Q => r xs H Q ∨ r' xs H Q) := fun pins s σ H x u Q I a q => q.elim (h pins s σ H x u Q I a) (k pins s σ H x u Q I a)
theorem IxR.or {X : Cx} {r r' : R2} (h : IxR X r) (k : IxR X r') : IxR X (fun x y H Q => r x y H Q ∨ r' x y H Q) := fun a b pins s σ H x y v u Q I e f q => q.elim (h a b pins s σ H x y v u Q I e f) (k a b pins s σ H x y v u Q I e f)
theorem SlR.or {X : Cx} {r r' : V → Option Int → Option Int → Hp → VK → Prop} (h : SlR X r) (k : SlR X r') : SlR X (fun x a b H Q => r x a b H Q ∨ r' x a b H Q) := fun pins s σ H x v vl vu lo hi sl Q I a b c d q => q.elim (h pins s σ H x v vl vu lo hi sl Q I a b c d) (k pins s σ H x v vl vu lo hi sl Q I a b c d)
theorem MtR.or {X : Cx} {id : String} {r r' : V → List V → Hp → VK → Prop} (h : MtR X id r) (k : MtR X id r') : MtR X id (fun x xs H Q => r x xs H Q ∨ r' x xs H Q) := fun pins s σ H x xs v us Q I a b q => q.elim (h pins s σ H x xs v us Q I a b) (k pins s σ H x xs v us Q I a b)
/-! ### names, constants -/
def fVar (i : Nat) : Fe := fun ρ S => match ρ[i]? with
  | some (some d) => .ok d S
  | _ => .bad
def fC (d : D) : Fe := fun _ S => .ok d S
section
variable {X : Cx} {K : PySem.W.Frag} {G : Gd} {W : WX}
theorem d_var {i : Nat} {x : Str} {pos : Pos} (h : PE X (.Name x pos) (tVar i)) : PE X (.Name x pos) (LE K G W (fVar i)) := PE.le h fun σ H Q ⟨m, ρ, S, p, h⟩ => by
  unfold fVar at h
  split at h
  · rename_i d e
    obtain ⟨v, e1, r⟩ := p.en.get e
    exact ⟨v, e1, h m H v p.rl .refl r⟩
  · exact h.elim
theorem d_c {e : Expr} {v : V} {d : D} (h : PE X e (tC v)) (r : ∀ m H, RV K m H d v) : PE X e (LE K G W (fC d)) := PE.le h fun σ H Q ⟨m, ρ, S, p, h⟩ => h m H v p.rl .refl (r m H)
theorem d_int {i : Int} {j : Nat} {pos : Pos} : PE X (.Constant (.int i) j pos) (LE K G W (fC (.int i))) := d_c pe_int fun _ _ => .int i
theorem d_bl {i : Bool} {j : Nat} {pos : Pos} : PE X (.Constant (.bool i) j pos) (LE K G W (fC (.bl i))) := d_c pe_bl fun _ _ => .bl i
theorem d_str {i : Str} {j : Nat} {pos : Pos} : PE X (.Constant (.str i) j pos) (LE K G W (fC (.str i))) := d_c pe_str fun _ _ => .str i
theorem d_non {j : Nat} {pos : Pos} : PE X (.Constant .none j pos) (LE K G W (fC .non)) := d_c pe_non fun _ _ => .non
/-! ### operators -/
def fOp (g : D → D → Store → Res D) (fa fb : Fe) : Fe := fun ρ S => (fa ρ S).bind fun d S1 => (fb ρ S1).bind fun e S2 => g d e S2
def fUn (g : D → Store → Res D) (fa : Fe) : Fe := fun ρ S => (fa ρ S).bind fun d S1 => g d S1
variable (X K) in
def OpD (f : Value → Value → Sem Value) (g : D → D → Store → Res D) : Prop := ∃ r, OpR X f r ∧ ∀ (W : WX) m σ S H x y d e Q, Rl K m S H → RV K m H d x → RV K m H e y → PR K (RV K) W m σ H (g d e S) Q → r x y H Q
variable {a b : Expr} {fa fb : Fe} {pos : Pos} {g : D → D → Store → Res D}
theorem op_use {r : R2} (o : ∀ (W : WX) m σ S H x y d e Q, Rl K m S H → RV K m H d x → RV K m H e y → PR K (RV K) W m σ H (g d e S) Q → r x y H Q) {σ : L2.St} {H : Hp} {Q : VK} (h : LE K G W (fOp g fa fb) σ H Q) : tOp r (LE K G W fa) (LE K G W fb) σ H Q :=
  (LX.step (R := RV K) h).mono fun x H1 ⟨m1, ρ, S1, d, p, rx, h1⟩ => ⟨m1, ρ, S1, p, h1.bind.mono fun y H2 ⟨m2, S2, e, rl, ext, ry, h2⟩ => o W m2 σ S2 H2 x y d e Q rl (rx.mono ext) ry h2⟩
theorem d_op {op : Operator} (o : OpD X K (binaryOp op) g) (ha : PE X a (LE K G W fa)) (hb : PE X b (LE K G W fb)) : PE X (.BinOp a op b pos) (LE K G W (fOp g fa fb)) := by
  obtain ⟨r, hr, o⟩ := o
  exact PE.le (pe_op hr ha hb) fun σ H Q h => op_use o h
theorem d_cmp {op : CmpOp} (o : OpD X K (compareOp op) g) (ha : PE X a (LE K G W fa)) (hb : PE X b (LE K G W fb)) (hm : behindInMarks op b = false) : PE X (.Compare a [op] [b] pos) (LE K G W (fOp g fa fb)) := by
  obtain ⟨r, hr, o⟩ := o
  exact PE.le (pe_cmpR hr ha hb hm) fun σ H Q h => op_use o h
/-! ### truth, tests -/
def truth (d : D) (S : Store) : Option Bool := match d with
  | .non => some false
  | .bl b => some b
  | .int i => some (i != 0)
  | .str z => if z.length ≤ sizeLine then some ((z.length : Int) != 0) else none
  | .tup xs => some (!xs.isEmpty)
  | .flst xs => some (!xs.isEmpty)
  | .obj i => (match S[i]? with
    | some (.lst xs) => some (!xs.isEmpty)
    | some (.dict kvs) => some (!kvs.isEmpty)
    | _ => none)
  | _ => none
def tst (fa : Fe) : Env → Store → Res Bool := fun ρ S => (fa ρ S).bind fun d S1 => match truth d S1 with
  | some b => .ok b S1
  | none => .bad
theorem empty_eq {m : List Addr} {H : Hp} : ∀ {xs : List D} {vs : List V}, RVs K m H xs vs → (!xs.isEmpty) = !vs.isEmpty
  | _, _, .nil => rfl
  | _, _, .cons _ _ => rfl
theorem RV.obj_of {m : List Addr} {H : Hp} {S : Store} {i : Nat} {x : V} {o : MO} (rl : Rl K m S H) (r : RV K m H (.obj i) x) (e : S[i]? = some o) : ∃ a, x = .ref a ∧ m[i]? = some a ∧ RO K m H a o := by
  cases r with
  | obj h => exact ⟨_, rfl, h, rl.at_ _ _ _ h e⟩
theorem truth_ok {m : List Addr} {S : Store} {H : Hp} {d : D} {x : V} {b : Bool} (rl : Rl K m S H) (r : RV K m H d x) (h : truth d S = some b) : TruV K x H b := by
  cases r with
  | non => cases h; rfl
  | bl c => cases h; rfl
  | int i => cases h; rfl
  | str z =>
    simp only [truth] at h
    split at h
    · rename_i hz
      cases h
      exact ⟨hz, rfl⟩
    · cases h
  | tup hs hr => cases h; exact .inr (.inl ⟨_, hs.sq, empty_eq hr⟩)
  | flst hs hr => cases h; exact .inl ⟨_, hs.sq, empty_eq hr⟩
  | @obj i a hm =>
    simp only [truth] at h
    split at h
    · rename_i xs e
      cases h
      obtain ⟨vs, ha, hr⟩ := rl.at_ _ _ _ hm e
      exact .inl ⟨vs, lof ha, empty_eq hr⟩
    · rename_i kvs e
      cases h
      obtain ⟨es, ha, hr⟩ := rl.at_ _ _ _ hm e
      refine .inr (.inr ⟨es, ha, ?_⟩)
      cases hr <;> rfl
    · cases h
  | _ => cases h
theorem tst_use {σ : L2.St} {H : Hp} {Q : Bool → Hp → Prop} (h : LT K G W (tst fa) σ H Q) : LE K G W fa σ H fun x H' => ∃ k, TruV K x H' k ∧ Q k H' :=
  (LX.step (R := RV K) h).mono fun x H1 ⟨m1, ρ, S1, d, p, rx, h1⟩ => by
    cases e : truth d S1 with
    | none => rw [e] at h1; exact h1.elim
    | some b =>
      rw [e] at h1
      exact ⟨b, truth_ok p.rl rx e, h1 m1 H1 b p.rl .refl rfl⟩
theorem t_truth (e : X.K = K) (ha : PE X a (LE K G W fa)) (he : ∀ whole, isTrue a X.env whole = (do let v ← whole; standAt a.pos; holding [v] (truthy v))) : PT X a (LT K G W (tst fa)) := by
  subst e
  exact PT.le (pt_truth ha he) fun σ H Q h => tst_use h
theorem t_cmp {op : CmpOp} (o : OpD X K (compareOp op) g) (hB : ∀ d e S, (∃ b, g d e S = .ok (.bl b) S) ∨ g d e S = .bad) (ha : PE X a (LE K G W fa)) (hb : PE X b (LE K G W fb)) (hm : behindInMarks op b = false) : PT X (.Compare a [op] [b] pos) (LT K G W (tst (fOp g fa fb))) := by
  obtain ⟨r, hr, o⟩ := o
  refine PT.le (pt_cmpR hr ha hb hm) fun σ H Q h => ?_
  obtain ⟨m, ρ, S, p, h⟩ := h
  have h2 : LE K G W (fOp g fa fb) σ H (fun x H' => ∃ k, x = .bl k ∧ Q k H') := by
    refine ⟨m, ρ, S, p, ?_⟩
    unfold tst at h
    cases e1 : fa ρ S with
    | bad => simp only [fOp, e1, Res.bind] at h ⊢; exact h
    | exc c fs S' => simp only [fOp, e1, Res.bind] at h ⊢; exact h
    | ok d S1 =>
      cases e2 : fb ρ S1 with
      | bad => simp only [fOp, e1, e2, Res.bind] at h ⊢; exact h
      | exc c fs S' => simp only [fOp, e1, e2, Res.bind] at h ⊢; exact h
      | ok e S2 =>
        rcases hB d e S2 with ⟨k, hk⟩ | hk
        · simp only [fOp, e1, e2, Res.bind, hk, truth] at h ⊢
          intro m' H' v rl ext rv
          cases rv
          exact ⟨k, rfl, h m' H' k rl ext rfl⟩
        · simp only [fOp, e1, e2, Res.bind, hk] at h ⊢; exact h
  exact op_use o h2
/-! ### and, or, not -/
def fNot (t : Env → Store → Res Bool) : Env → Store → Res Bool := fun ρ S => (t ρ S).bind fun b S1 => .ok (!b) S1
def fAnd (t u : Env → Store → Res Bool) : Env → Store → Res Bool := fun ρ S => (t ρ S).bind fun b S1 => if b = true then u ρ S1 else .ok false S1
def fOr (t u : Env → Store → Res Bool) : Env → Store → Res Bool := fun ρ S => (t ρ S).bind fun b S1 => if b = true then .ok true S1 else u ρ S1
variable {t u : Env → Store → Res Bool} {rest : List Expr}
theorem t_not (ha : PT X a (LT K G W t)) : PT X (.UnaryOp .Not a pos) (LT K G W (fNot t)) := PT.le (pt_not ha) fun σ H Q h =>
  (LX.step (R := RB Bool) h).mono fun x H1 ⟨m1, ρ, S1, d, p, rx, h1⟩ => by
    cases rx
    exact h1 m1 H1 _ p.rl .refl rfl
theorem t_or1 (ha : PT X a (LT K G W t)) : PW X (.BoolOp .Or [a] pos) (LT K G W t) := pw_or1 ha
theorem t_or (ha : PT X a (LT K G W t)) (hb : PW X (.BoolOp .Or (b :: rest) pos) (LT K G W u)) : PW X (.BoolOp .Or (a :: b :: rest) pos) (LT K G W (fOr t u)) := PW.le (pw_or ha hb) fun σ H Q h =>
  (LX.step (R := RB Bool) h).mono fun x H1 ⟨m1, ρ, S1, d, p, rx, h1⟩ => by
    cases rx
    cases x with
    | true => exact h1 m1 H1 _ p.rl .refl rfl
    | false => exact ⟨m1, ρ, S1, p, h1⟩
/-- as values: by truth -/
def fAndV (fa fb : Fe) : Fe := fun ρ S => (fa ρ S).bind fun d S1 => match truth d S1 with
  | some true => fb ρ S1
  | some false => .ok d S1
  | none => .bad
def fOrV (fa fb : Fe) : Fe := fun ρ S => (fa ρ S).bind fun d S1 => match truth d S1 with
  | some true => .ok d S1
  | some false => fb ρ S1
  | none => .bad
def fNotV (fa : Fe) : Fe := fun ρ S => (fa ρ S).bind fun d S1 => match truth d S1 with
  | some b => .ok (.bl (!b)) S1
  | none => .bad
theorem d_one {op : BoolOp} (ha : PE X a (LE K G W fa)) : PE X (.BoolOp op [a] pos) (LE K G W fa) := pe_one ha
theorem d_and (e : X.K = K) (ha : PE X a (LE K G W fa)) (hb : PE X (.BoolOp .And (b :: rest) pos) (LE K G W fb)) : PE X (.BoolOp .And (a :: b :: rest) pos) (LE K G W (fAndV fa fb)) := by
  subst e
  refine PE.le (pe_andT ha hb) fun σ H Q h => (LX.step (R := RV X.K) h).mono fun x H1 ⟨m1, ρ, S1, d, p, rx, h1⟩ => ?_
  cases e : truth d S1 with
  | none => simp only [e] at h1; exact h1.elim
  | some b =>
    refine ⟨b, truth_ok p.rl rx e, ?_⟩
    cases b with
    | true => simp only [e] at h1; exact ⟨m1, ρ, S1, p, h1⟩
    | false => simp only [e] at h1; exact h1 m1 H1 x p.rl .refl rx
def fIf (t : Env → Store → Res Bool) (fa fb : Fe) : Fe := fun ρ S => (t ρ S).bind fun b S1 => if b = true then fa ρ S1 else fb ρ S1
/-! ### argument lists, tuples, lists -/
def aNil : Env → Store → Res (List D) := fun _ S => .ok [] S
def aCons (fa : Fe) (r : Env → Store → Res (List D)) : Env → Store → Res (List D) := fun ρ S => (fa ρ S).bind fun d S1 => (r ρ S1).bind fun ds S2 => .ok (d :: ds) S2
variable {es : List Expr} {fr : Env → Store → Res (List D)}
theorem a_nil : PA X [] (LA K G W aNil) := PA.le pa_nil fun σ H Q ⟨m, ρ, S, p, h⟩ => h m H [] p.rl .refl .nil
theorem a_cons (ha : PE X a (LE K G W fa)) (hr : PA X es (LA K G W fr)) (he : starEach (a :: es) X.env = (false, eval a X.env) :: starEach es X.env := by rfl) : PA X (a :: es) (LA K G W (aCons fa fr)) := PA.le (pa_cons ha hr he) fun σ H Q h =>
  (LX.step (R := RV K) h).mono fun x H1 ⟨m1, ρ, S1, d, p, rx, h1⟩ => ⟨m1, ρ, S1, p, (PR.bind (R := RVs K) h1).mono fun y H2 ⟨m2, S2, e, rl, ext, ry, h2⟩ => h2 m2 H2 _ rl .refl (.cons (rx.mono ext) ry)⟩
def fTup (fr : Env → Store → Res (List D)) : Fe := fun ρ S => (fr ρ S).bind fun ds S1 => if ds.length ≤ sizeLine then .ok (.tup ds) S1 else .bad
def fLst (fr : Env → Store → Res (List D)) : Fe := fun ρ S => (fr ρ S).bind fun ds S1 => if ds.length ≤ sizeLine then .ok (.obj S1.length) (S1 ++ [.lst ds]) else .bad
theorem d_tup {x1 : Nat} (h : PA X es (LA K G W fr)) : PE X (.Tuple es x1 pos) (LE K G W (fTup fr)) := PE.le (pe_tupP h) fun σ H Q h =>
  (LX.step (R := RVs K) h).mono fun xs H1 ⟨m1, ρ, S1, ds, p, rx, h1⟩ => by
    split at h1
    · rename_i hz
      exact ⟨by rw [← rx.len]; exact hz, fun a H2 n s e => h1 m1 H2 _ (p.rl.same s) (.same s) (.tup (.inl e) (rx.mono (.same s)))⟩
    · exact h1.elim
/-- a new object -/
theorem Rl.fresh {m : List Addr} {S : Store} {H H2 : Hp} {p : Addr} {o : MO} (rl : Rl K m S H) (n : H p = none) (s : Same H H2) (h : RO K (m ++ [p]) H2 p o) : Rl K (m ++ [p]) (S ++ [o]) H2 ∧ Ext m H (m ++ [p]) H2 ∧ RV K (m ++ [p]) H2 (.obj S.length) (.ref p) :=
  ⟨rl.new n s h, .new s, .obj (by rw [← rl.len, List.getElem?_append_right (Nat.le_refl _), Nat.sub_self]; rfl)⟩
theorem new_use {m : List Addr} {S : Store} {H : Hp} {σ : L2.St} {Q : VK} {o : MO} {u : HO} (rl : Rl K m S H) (h : PR K (RV K) W m σ H (.ok (.obj S.length) (S ++ [o])) Q) (ho : ∀ p H2, Same H H2 → H2 p = some u → RO K (m ++ [p]) H2 p o) : NewQ H u Q := fun p H2 n s e =>
  let ⟨a, b, c⟩ := rl.fresh n s (ho p H2 s e)
  h _ _ _ a b c
theorem d_lst (h : PA X es (LA K G W fr)) : PE X (.List es pos) (LE K G W (fLst fr)) := PE.le (pe_lstN h) fun σ H Q h =>
  (LX.step (R := RVs K) h).mono fun xs H1 ⟨m1, ρ, S1, ds, p, rx, h1⟩ => by
    split at h1
    · rename_i hz
      exact ⟨by rw [← rx.len]; exact hz, new_use p.rl h1 fun p H2 s e => ⟨xs, e, rx.mono (.new s)⟩⟩
    · exact h1.elim
end
end Dz
/-! ### the operators -/
namespace Dz
open PySem PySem.Spec PyProof.Rows L2 Fz
section
variable {X : Cx} {K : PySem.W.Frag} {G : Gd} {W : WX} {m : List Addr} {S : Store} {H : Hp} {σ : L2.St}
/-- of two numbers -/
def gI (C : Int → Int → Bool) (g : Int → Int → D) : D → D → Store → Res D := fun d e S => match d, e with
  | .int i, .int j => if C i j = true then .ok (g i j) S else .bad
  | _, _ => .bad
theorem opI_ok {C : Int → Int → Bool} {P : Int → Int → Prop} {g : Int → Int → D} {gv : Int → Int → V} {f : Value → Value → Sem Value} (h : OpR X f (rI P gv)) (hc : ∀ i j, C i j = true → P i j) (hg : ∀ m H i j, RV K m H (g i j) (gv i j)) : OpD X K f (gI C g) := by
  refine ⟨_, h, fun W m σ S H x y d e Q rl rx ry q => ?_⟩
  unfold gI at q
  split at q
  · rename_i i j
    split at q
    · rename_i hC
      cases rx; cases ry
      exact ⟨i, j, rfl, rfl, hc i j hC, q m H _ rl .refl (hg m H i j)⟩
    · exact q.elim
  · exact q.elim
theorem opI0_ok {g : Int → Int → D} {gv : Int → Int → V} {f : Value → Value → Sem Value} (h : OpR X f (rI0 gv)) (hg : ∀ m H i j, RV K m H (g i j) (gv i j)) : OpD X K f (gI (fun _ _ => true) g) := by
  refine ⟨_, h, fun W m σ S H x y d e Q rl rx ry q => ?_⟩
  unfold gI at q
  split at q
  · rename_i i j
    cases rx; cases ry
    exact ⟨i, j, rfl, rfl, q m H _ rl .refl (hg m H i j)⟩
  · exact q.elim
/-- + -/
def gAdd (d e : D) (S : Store) : Res D := match d, e with
  | .int i, .int j => .ok (.int (i + j)) S
  | .str a, .str b => if a.length + b.length ≤ sizeLine then .ok (.str (a ++ b)) S else .bad
  | .tup xs, .tup ys => if xs.length + ys.length ≤ sizeLine then .ok (.tup (xs ++ ys)) S else .bad
  | .obj i, .obj j => (match S[i]?, S[j]? with
    | some (.lst xs), some (.lst ys) => if xs.length + ys.length ≤ sizeLine then .ok (.obj S.length) (S ++ [.lst (xs ++ ys)]) else .bad
    | _, _ => .bad)
  | _, _ => .bad
theorem o_add (e : X.K = K) : OpD X K (binaryOp .Add) gAdd := by
  refine ⟨_, OpR.or (OpR.or op_add op_addSN) (OpR.or (k_catTP e) op_catN), fun W m σ S H x y d e Q rl rx ry q => ?_⟩
  unfold gAdd at q
  split at q
  · cases rx; cases ry
    exact .inl (.inl ⟨_, _, rfl, rfl, q m H _ rl .refl (.int _)⟩)
  · split at q
    · rename_i hz
      cases rx; cases ry
      exact .inl (.inr ⟨_, _, rfl, rfl, hz, q m H _ rl .refl (.str _)⟩)
    · exact q.elim
  · split at q
    · rename_i hz
      cases rx with | tup h1 r1 => cases ry with | tup h2 r2 =>
      exact .inr (.inl ⟨_, _, _, _, rfl, rfl, h1, h2, by rw [← r1.len, ← r2.len]; exact hz, fun c H2 s hc => q m H2 _ (rl.same s) (.same s) (.tup hc ((r1.append r2).mono (.same s)))⟩)
    · exact q.elim
  · split at q
    · rename_i e1 e2
      split at q
      · rename_i hz
        obtain ⟨a, rfl, ha, vs, hv, r1⟩ := RV.obj_of rl rx e1
        obtain ⟨b, rfl, hb, ws, hw, r2⟩ := RV.obj_of rl ry e2
        exact .inr (.inr ⟨a, b, vs, ws, rfl, rfl, hv, hw, by rw [← r1.len, ← r2.len]; exact hz, new_use rl q fun p H2 s e => ⟨_, e, (r1.append r2).mono (.new s)⟩⟩)
      · exact q.elim
    · exact q.elim
  · exact q.elim
def gSub : D → D → Store → Res D := gI (fun _ _ => true) fun i j => .int (i - j)
theorem o_sub : OpD X K (binaryOp .Sub) gSub := opI0_ok op_sub fun _ _ _ _ => .int _
def cMul (i j : Int) : Bool := (decide (-(2 ^ 64) < i) && decide (i < 2 ^ 64)) || (decide (-(2 ^ 64) < j) && decide (j < 2 ^ 64))
/-- *: numbers; a tuple some times -/
def gMul (d e : D) (S : Store) : Res D := match d, e with
  | .int i, .int j => if cMul i j = true then .ok (.int (i * j)) S else .bad
  | .obj l, .int k => (match S[l]? with
    | some (.lst xs) => if 0 ≤ k ∧ k ≤ 1000 ∧ xs.length ≤ 1000 then .ok (.obj S.length) (S ++ [.lst (List.replicate k.toNat xs).flatten]) else .bad
    | _ => .bad)
  | _, _ => .bad
theorem RVs.rep {xs : List D} {vs : List V} (r : RVs K m H xs vs) : ∀ n : Nat, RVs K m H (List.replicate n xs).flatten (List.replicate n vs).flatten
  | 0 => .nil
  | n + 1 => by
    rw [List.replicate_succ, List.replicate_succ, List.flatten_cons, List.flatten_cons]
    exact r.append (r.rep n)
theorem o_mul (e : X.K = K) : OpD X K (binaryOp .Mult) gMul := by
  refine ⟨_, OpR.or op_mul op_rep, fun W m σ S H x y d e Q rl rx ry q => ?_⟩
  unfold gMul at q
  split at q
  · split at q
    · rename_i hz
      cases rx; cases ry
      refine .inl ⟨_, _, rfl, rfl, ?_, q m H _ rl .refl (.int _)⟩
      simp only [cMul, Bool.or_eq_true, Bool.and_eq_true, decide_eq_true_eq] at hz
      exact hz
    · exact q.elim
  · split at q
    · rename_i e1
      split at q
      · rename_i hz
        obtain ⟨a, rfl, ha, vs, hv, r1⟩ := RV.obj_of rl rx e1
        cases ry
        obtain ⟨z0, z1, z2⟩ := hz
        refine .inr ⟨a, _, vs, rfl, rfl, hv, by omega, by omega, ?_, fun p hp => new_use rl q (fun p H2 s e => ⟨_, e, (r1.rep _).mono (.new s)⟩) p _ hp (new_same hp) upd_same⟩
        rw [← r1.len]
        exact Nat.le_trans (Nat.mul_le_mul z2 (Int.toNat_le.mpr z1)) (by decide)
      · exact q.elim
    · exact q.elim
  · exact q.elim
def gMod : D → D → Store → Res D := gI (fun _ j => decide (j ≠ 0)) fun i j => .int (i.fmod j)
theorem o_mod : OpD X K (binaryOp .Mod) gMod := opI_ok op_modN (fun _ _ h => of_decide_eq_true h) fun _ _ _ _ => .int _
def gFdiv : D → D → Store → Res D := gI (fun _ j => decide (j ≠ 0 ∧ j.natAbs < 10 ^ 70)) fun i j => .int (i.fdiv j)
theorem op_fdivB : OpR X (binaryOp .FloorDiv) (rI (fun _ j => j ≠ 0 ∧ j.natAbs < 10 ^ 70) fun i j => .int (i.fdiv j)) := opI fun _ j _ _ _ _ _ hc q => floordiv_int hc.1 q (.inl (PyProof.noPylong_of_log2 (by
  have h2 : j.natAbs < 2 ^ 240 := Nat.lt_of_lt_of_le hc.2 (by decide +kernel)
  by_cases h0 : j.natAbs = 0
  · rw [h0]; decide +kernel
  · have := (Nat.log2_lt h0).mpr h2
    omega)))
theorem o_fdiv : OpD X K (binaryOp .FloorDiv) gFdiv := opI_ok op_fdivB (fun i j h => (of_decide_eq_true h : j ≠ 0 ∧ j.natAbs < 10 ^ 70)) fun _ _ _ _ => .int _
def gPow : D → D → Store → Res D := gI (fun i j => decide (0 ≤ j ∧ j ≤ 1000000 ∧ i.natAbs < 2 ^ 64)) fun i j => .int (i ^ j.toNat)
theorem o_pow : OpD X K (binaryOp .Pow) gPow := opI_ok op_pow (fun i j h => (of_decide_eq_true h : 0 ≤ j ∧ j ≤ 1000000 ∧ i.natAbs < 2 ^ 64)) fun _ _ _ _ => .int _
def gNeg (d : D) (S : Store) : Res D := match d with
  | .int i => .ok (.int (-i)) S
  | _ => .bad
theorem d_neg {a : Expr} {fa : Fe} {pos : Pos} (ha : PE X a (LE K G W fa)) : PE X (.UnaryOp .USub a pos) (LE K G W (fUn gNeg fa)) := PE.le (pe_un un_neg ha) fun σ H Q h =>
  (LX.step (R := RV K) h).mono fun x H1 ⟨m1, ρ, S1, d, p, rx, h1⟩ => by
    unfold gNeg at h1
    split at h1
    · cases rx; exact ⟨_, rfl, h1 m1 H1 _ p.rl .refl (.int _)⟩
    · exact h1.elim
/-! ### order -/
/-- texts by their signs -/
def ltS (a b : Str) : Bool := decide (a.cps.toList < b.cps.toList)
def gCmp (p : Int → Int → Bool) (q : Str → Str → Bool) (d e : D) (S : Store) : Res D := match d, e with
  | .int i, .int j => .ok (.bl (p i j)) S
  | .str a, .str b => .ok (.bl (q a b)) S
  | _, _ => .bad
theorem gCmp_b (p : Int → Int → Bool) (q : Str → Str → Bool) (d e : D) (S : Store) : (∃ b, gCmp p q d e S = .ok (.bl b) S) ∨ gCmp p q d e S = .bad := by
  unfold gCmp
  split
  · exact .inl ⟨_, rfl⟩
  · exact .inl ⟨_, rfl⟩
  · exact .inr rfl
theorem cmp_ok {p : Int → Int → Bool} {qs : Str → Str → Bool} {f : Value → Value → Sem Value} (h1 : OpR X f (rI0 fun i j => .bl (p i j))) (h2 : OpR X f (fun x y H Q => ∃ i j, x = .str i ∧ y = .str j ∧ Q (.bl (qs i j)) H)) : OpD X K f (gCmp p qs) := by
  refine ⟨_, OpR.or h1 h2, fun W m σ S H x y d e Q rl rx ry q => ?_⟩
  unfold gCmp at q
  split at q
  · cases rx; cases ry
    exact .inl ⟨_, _, rfl, rfl, q m H _ rl .refl (.bl _)⟩
  · cases rx; cases ry
    exact .inr ⟨_, _, rfl, rfl, q m H _ rl .refl (.bl _)⟩
  · exact q.elim
def gLt : D → D → Store → Res D := gCmp (fun i j => decide (i < j)) (fun a b => decide (a.cps.toList < b.cps.toList))
def gLe : D → D → Store → Res D := gCmp (fun i j => decide (i ≤ j)) (fun a b => !decide (b.cps.toList < a.cps.toList))
def gGt : D → D → Store → Res D := gCmp (fun i j => decide (j < i)) (fun a b => decide (b.cps.toList < a.cps.toList))
def gGe : D → D → Store → Res D := gCmp (fun i j => decide (j ≤ i)) (fun a b => !decide (a.cps.toList < b.cps.toList))
theorem o_lt : OpD X K (compareOp .Lt) gLt := cmp_ok op_lt op_lt_str
/-! ### data -/
mutual
def pyD : D → Option PyData
  | .non => some .none
  | .bl b => some (.bool b)
  | .int i => some (.int i)
  | .str z => some (.str z)
  | .tup xs => (pysD xs).map .tuple
  | _ => none
def pysD : List D → Option (List PyData)
  | [] => some []
  | x :: xs => (match pyD x, pysD xs with
    | some p, some ps => some (p :: ps)
    | _, _ => none)
end
def pyO (S : Store) (d : D) : Option PyData := match d with
  | .obj i => (match S[i]? with
    | some (.lst xs) => (pysD xs).map .list
    | _ => none)
  | .flst xs => (pysD xs).map .list
  | d => pyD d
mutual
theorem pyD_ok : ∀ {d : D} {v : V} {p : PyData}, RV K m H d v → pyD d = some p → Dp K H v p
  | _, _, _, .non, e => by simp only [pyD] at e; cases e; exact .non
  | _, _, _, .bl b, e => by simp only [pyD] at e; cases e; exact .bl b
  | _, _, _, .int i, e => by simp only [pyD] at e; cases e; exact .int i
  | _, _, _, .str z, e => by simp only [pyD] at e; cases e; exact .str z
  | _, _, _, .tup h r, e => by
    simp only [pyD, Option.map_eq_some_iff] at e
    obtain ⟨ps, e, rfl⟩ := e
    exact .tup h.sq (pysD_ok r e)
  | _, _, _, .flst _ _, e => by simp [pyD] at e
  | _, _, _, .obj _, e => by simp [pyD] at e
  | _, _, _, .glob _, e => by simp [pyD] at e
  | _, _, _, .ty _, e => by simp [pyD] at e
  | _, _, _, .exc _, e => by simp [pyD] at e
theorem pysD_ok : ∀ {ds : List D} {vs : List V} {ps : List PyData}, RVs K m H ds vs → pysD ds = some ps → DpAll K H vs ps
  | _, _, _, .nil, e => by simp only [pysD] at e; cases e; exact .nil
  | _, _, _, .cons r t, e => by
    simp only [pysD] at e
    split at e
    · rename_i p ps e1 e2
      cases e
      exact .cons (pyD_ok r e1) (pysD_ok t e2)
    · cases e
end
theorem pyO_ok {d : D} {v : V} {p : PyData} (rl : Rl K m S H) (r : RV K m H d v) (e : pyO S d = some p) : Dp K H v p := by
  unfold pyO at e
  split at e
  · split at e
    · rename_i xs h
      obtain ⟨a, rfl, ha, vs, hv, rr⟩ := RV.obj_of rl r h
      rw [Option.map_eq_some_iff] at e
      obtain ⟨ps, e, rfl⟩ := e
      exact .lst (lof hv) (pysD_ok rr e)
    · cases e
  · cases r with | flst h rr =>
    rw [Option.map_eq_some_iff] at e
    obtain ⟨ps, e, rfl⟩ := e
    exact .lst h.sq (pysD_ok rr e)
  · exact pyD_ok r e
/-- flat values -/
def fltD : D → Option V
  | .non => some .non
  | .bl b => some (.bl b)
  | .int i => some (.int i)
  | .str z => some (.str z)
  | _ => none
def fltsD : List D → Option (List V)
  | [] => some []
  | x :: xs => (match fltD x, fltsD xs with
    | some p, some ps => some (p :: ps)
    | _, _ => none)
theorem fltD_ok {d : D} {x v : V} (r : RV K m H d x) (e : fltD d = some v) : x = v ∧ flatV v = true := by
  cases r <;> simp only [fltD, Option.some.injEq, reduceCtorEq] at e <;> subst e <;> exact ⟨rfl, rfl⟩
theorem fltsD_ok : ∀ {ds : List D} {xs vs : List V}, RVs K m H ds xs → fltsD ds = some vs → xs = vs ∧ vs.all flatV = true
  | _, _, _, .nil, e => by simp only [fltsD] at e; cases e; exact ⟨rfl, rfl⟩
  | _, _, _, .cons r t, e => by
    simp only [fltsD] at e
    split at e
    · rename_i p ps e1 e2
      cases e
      obtain ⟨rfl, h1⟩ := fltD_ok r e1
      obtain ⟨rfl, h2⟩ := fltsD_ok t e2
      exact ⟨rfl, by rw [List.all_cons, h1, h2]; rfl⟩
    · cases e
def sclD (d e : D) : Option Bool := match fltD d, fltD e with
  | some v, some w => if scal v w = true then some (decide (v = w)) else none
  | _, _ => none
/-- by kinds and lengths alone -/
def shlD (S : Store) (d e : D) : Option Bool := match d, e with
  | .tup xs, .tup ys => if xs.isEmpty || ys.isEmpty then some (xs.length == ys.length) else none
  | .obj i, .tup _ => (match S[i]? with
    | some (.dict _) => some false
    | _ => none)
  | .obj i, .obj j => (match S[i]?, S[j]? with
    | some (.lst xs), some (.lst ys) => if xs.length ≠ ys.length then some false else none
    | _, _ => none)
  | _, _ => none
/-- tuples of flat things -/
def flt2 (d e : D) : Bool := match d, e with
  | .tup xs, .tup ys => (fltsD xs).isSome && (fltsD ys).isSome
  | _, _ => false
theorem flts_pys : ∀ {xs : List D} {vs : List V}, fltsD xs = some vs → pysD xs = some (vs.map pyF)
  | [], _, e => by cases e; rfl
  | x :: xs, vs, e => by
    unfold fltsD at e
    split at e
    · rename_i p ps e1 e2
      cases e
      rw [pysD, flts_pys e2]
      have : pyD x = some (pyF p) := by
        cases x <;> simp only [fltD, Option.some.injEq, reduceCtorEq] at e1 <;> subst e1 <;> rfl
      rw [this]
      rfl
    · cases e
/-- two dicts of data -/
def pyKv : List (Key × D) → Option (List (Key × PyData))
  | [] => some []
  | (k, d) :: r => (match pyD d, pyKv r with
    | some p, some ps => if SeqAt.shaped p = true then some ((k, p) :: ps) else none
    | _, _ => none)
def ddD (S : Store) (d e : D) : Option Bool := match d, e with
  | .obj i, .obj j => (match S[i]?, S[j]? with
    | some (.dict xs), some (.dict ys) => if xs.length ≠ ys.length then some false else (match pyKv xs, pyKv ys with
      | some pa, some pb => some (eqKV pa pb)
      | _, _ => none)
    | _, _ => none)
  | _, _ => none
def gEqv (n : Bool) (d e : D) (S : Store) : Res D := match sclD d e with
  | some b => .ok (.bl (b != n)) S
  | none => (match pyO S d, pyO S e with
    | some p, some q => if (SeqAt.shaped p = true ∧ SeqAt.shaped q = true) ∨ flt2 d e = true then .ok (.bl (PyData.eqv p q != n)) S else .bad
    | _, _ => (match shlD S d e with
      | some b => .ok (.bl (b != n)) S
      | none => (match ddD S d e with
        | some b => .ok (.bl (b != n)) S
        | none => .bad)))
def gEq := gEqv false
def gNe := gEqv true
theorem gEqv_b (n : Bool) (d e : D) (S : Store) : (∃ b, gEqv n d e S = .ok (.bl b) S) ∨ gEqv n d e S = .bad := by
  unfold gEqv
  split
  · exact .inl ⟨_, rfl⟩
  · split
    · split
      · exact .inl ⟨_, rfl⟩
      · exact .inr rfl
    · split
      · exact .inl ⟨_, rfl⟩
      · split
        · exact .inl ⟨_, rfl⟩
        · exact .inr rfl
theorem pyKv_ok : ∀ {kvs : List (Key × D)} {es : List (Key × V)} {pa : List (Key × PyData)}, RKV K m H kvs es → pyKv kvs = some pa → PyKV K H es pa
  | _, _, _, .nil, e => by cases e; exact .nil
  | _, _, _, .cons (a := p) (b := q) h t, e => by
    obtain ⟨p1, p2⟩ := p
    obtain ⟨q1, q2⟩ := q
    obtain ⟨h1, h2⟩ := h
    simp only at h1 h2
    unfold pyKv at e
    split at e
    · rename_i y ps e1 e2
      split at e
      · rename_i hs
        cases e
        exact .cons ⟨h1.symm, pyD_ok h2 e1, hs⟩ (pyKv_ok t e2)
      · cases e
    · cases e
theorem ddD_ok {n b : Bool} {d e : D} {x y : V} {Q : VK} (rl : Rl K m S H) (rx : RV K m H d x) (ry : RV K m H e y) (h : ddD S d e = some b) (q : Q (.bl (b != n)) H) : rEqDD K n x y H Q := by
  unfold ddD at h
  split at h
  · split at h
    · rename_i h1 h2
      obtain ⟨a, rfl, _, es, ha, r1⟩ := RV.obj_of rl rx h1
      obtain ⟨c, rfl, _, fs, hb, r2⟩ := RV.obj_of rl ry h2
      split at h
      · rename_i hl
        cases h
        exact ⟨a, c, es, fs, [], [], rfl, rfl, ha, hb, .inl ⟨fun z => hl ((Paired.length r1).trans (z.trans (Paired.length r2).symm)), q⟩⟩
      · split at h
        · rename_i pa pb e1 e2
          cases h
          exact ⟨a, c, es, fs, pa, pb, rfl, rfl, ha, hb, .inr ⟨pyKv_ok r1 e1, pyKv_ok r2 e2, q⟩⟩
        · cases h
    · cases h
  · cases h
theorem flt2_ok {n : Bool} {d e : D} {p p' : PyData} {x y : V} {Q : VK} (rx : RV K m H d x) (ry : RV K m H e y) (e1 : pyO S d = some p) (e2 : pyO S e = some p') (h : flt2 d e = true) (q : Q (.bl (PyData.eqv p p' != n)) H) : rFlT K n x y H Q := by
  unfold flt2 at h
  split at h
  · rename_i xs ys
    rw [Bool.and_eq_true, Option.isSome_iff_exists, Option.isSome_iff_exists] at h
    obtain ⟨⟨vs, h1⟩, ws, h2⟩ := h
    cases rx with
    | tup hx r1 =>
      cases ry with
      | tup hy r2 =>
        obtain ⟨rfl, f1⟩ := fltsD_ok r1 h1
        obtain ⟨rfl, f2⟩ := fltsD_ok r2 h2
        have g1 : (pysD xs).map PyData.tuple = some p := e1
        have g2 : (pysD ys).map PyData.tuple = some p' := e2
        rw [flts_pys h1] at g1
        rw [flts_pys h2] at g2
        cases g1
        cases g2
        exact ⟨_, _, _, _, rfl, rfl, hx.sq, hy.sq, f1, f2, q⟩
  · cases h
theorem shlD_ok {n b : Bool} {d e : D} {x y : V} {Q : VK} (rl : Rl K m S H) (rx : RV K m H d x) (ry : RV K m H e y) (h : shlD S d e = some b) (q : Q (.bl (b != n)) H) : rShl K n x y H Q := by
  unfold shlD at h
  split at h
  · rename_i xs ys
    split at h
    · rename_i hc
      cases h
      cases rx with
      | tup h1 r1 =>
        cases ry with
        | tup h2 r2 =>
          refine ⟨_, _, rfl, rfl, .inr (.inl ⟨_, _, h1.sq, h2.sq, ?_, ?_⟩)⟩
          · rw [Bool.or_eq_true, List.isEmpty_iff, List.isEmpty_iff] at hc
            rcases hc with hc | hc
            · subst hc; cases r1; exact .inl rfl
            · subst hc; cases r2; exact .inr rfl
          · rw [← r1.len, ← r2.len]; exact q
    · cases h
  · split at h
    · rename_i hS
      cases h
      obtain ⟨a, rfl, _, es, ha, _⟩ := RV.obj_of rl rx hS
      cases ry with
      | tup h2 r2 =>
        rw [Bool.false_bne] at q
        exact ⟨_, _, rfl, rfl, .inr (.inr ⟨_, _, ha, h2.sq, q⟩)⟩
    · cases h
  · split at h
    · rename_i hS1 hS2
      split at h
      · rename_i hne
        cases h
        obtain ⟨a, rfl, _, vs, ha, r1⟩ := RV.obj_of rl rx hS1
        obtain ⟨b, rfl, _, ws, hb, r2⟩ := RV.obj_of rl ry hS2
        rw [Bool.false_bne] at q
        exact ⟨_, _, rfl, rfl, .inl ⟨_, _, lof ha, lof hb, by rw [← r1.len, ← r2.len]; exact hne, q⟩⟩
      · cases h
    · cases h
  · cases h
theorem sclD_ok {d e : D} {x y : V} {b : Bool} (rx : RV K m H d x) (ry : RV K m H e y) (h : sclD d e = some b) : scal x y = true ∧ decide (x = y) = b := by
  unfold sclD at h
  split at h
  · rename_i v w h1 h2
    split at h
    · rename_i hs
      cases h
      obtain ⟨rfl, _⟩ := fltD_ok rx h1
      obtain ⟨rfl, _⟩ := fltD_ok ry h2
      exact ⟨hs, rfl⟩
    · cases h
  · cases h
theorem o_eq (e : X.K = K) (hu : X.A.units + 65 < cLine) : OpD X K (compareOp .Eq) gEq := by
  refine ⟨_, OpR.or op_eq (OpR.or (k_eqD e (by omega)) (OpR.or (e ▸ k_eqS (by omega)) (OpR.or (e ▸ k_eqDD hu) (e ▸ k_eqF (by omega))))), fun W m σ S H x y d e Q rl rx ry q => ?_⟩
  unfold gEq gEqv at q
  split at q
  · rename_i b hb
    obtain ⟨h1, h2⟩ := sclD_ok rx ry hb
    have := q m H _ rl .refl (.bl _)
    rw [Bool.bne_false, ← h2] at this
    exact .inl ⟨h1, this⟩
  · split at q
    · rename_i p p' e1 e2
      split at q
      · rename_i hs
        rcases hs with hs | hs
        · exact .inr (.inl ⟨p, p', pyO_ok rl rx e1, pyO_ok rl ry e2, hs.1, hs.2, by have := q m H _ rl .refl (.bl _); rwa [Bool.bne_false] at this⟩)
        · exact .inr (.inr (.inr (.inr (flt2_ok rx ry e1 e2 hs (q m H _ rl .refl (.bl _))))))
      · exact q.elim
    · split at q
      · rename_i b hb
        exact .inr (.inr (.inl (shlD_ok rl rx ry hb (q m H _ rl .refl (.bl _)))))
      · split at q
        · rename_i b hb
          exact .inr (.inr (.inr (.inl (ddD_ok rl rx ry hb (q m H _ rl .refl (.bl _))))))
        · exact q.elim
theorem o_ne (e : X.K = K) (hu : X.A.units + 65 < cLine) : OpD X K (compareOp .NotEq) gNe := by
  refine ⟨_, OpR.or op_ne (OpR.or (k_neD e (by omega)) (OpR.or (e ▸ k_neS (by omega)) (OpR.or (e ▸ k_neDD hu) (e ▸ k_neF (by omega))))), fun W m σ S H x y d e Q rl rx ry q => ?_⟩
  unfold gNe gEqv at q
  split at q
  · rename_i b hb
    obtain ⟨h1, h2⟩ := sclD_ok rx ry hb
    have := q m H _ rl .refl (.bl _)
    rw [Bool.bne_true, ← h2] at this
    exact .inl ⟨h1, this⟩
  · split at q
    · rename_i p p' e1 e2
      split at q
      · rename_i hs
        rcases hs with hs | hs
        · exact .inr (.inl ⟨p, p', pyO_ok rl rx e1, pyO_ok rl ry e2, hs.1, hs.2, by have := q m H _ rl .refl (.bl _); rwa [Bool.bne_true] at this⟩)
        · exact .inr (.inr (.inr (.inr (flt2_ok rx ry e1 e2 hs (q m H _ rl .refl (.bl _))))))
      · exact q.elim
    · split at q
      · rename_i b hb
        exact .inr (.inr (.inl (shlD_ok rl rx ry hb (q m H _ rl .refl (.bl _)))))
      · split at q
        · rename_i b hb
          exact .inr (.inr (.inr (.inl (ddD_ok rl rx ry hb (q m H _ rl .refl (.bl _))))))
        · exact q.elim
theorem o_le : OpD X K (compareOp .LtE) gLe := cmp_ok op_le op_le_str
theorem o_gt : OpD X K (compareOp .Gt) gGt := cmp_ok op_gt op_gt_str
theorem o_ge : OpD X K (compareOp .GtE) gGe := cmp_ok op_ge op_ge_str
/-! ### is None, is True; in -/
def isNon : D → Bool
  | .non => true
  | _ => false
def gIs (n : Bool) (d e : D) (S : Store) : Res D := match e with
  | .non => .ok (.bl (isNon d != n)) S
  | .bl b => (match d with
    | .bl c => .ok (.bl (decide (c = b) != n)) S
    | _ => .bad)
  | _ => .bad
/-- the items of a list or tuple -/
def itemsD (S : Store) : D → Option (List D)
  | .tup xs => some xs
  | .flst xs => some xs
  | .obj i => (match S[i]? with
    | some (.lst xs) => some xs
    | _ => none)
  | _ => none
theorem itemsD_ok {d : D} {x : V} {xs : List D} (rl : Rl K m S H) (r : RV K m H d x) (e : itemsD S d = some xs) : ∃ a vs, x = .ref a ∧ (SqL K H a vs ∨ SqT K H a vs) ∧ RVs K m H xs vs := by
  unfold itemsD at e
  split at e
  · cases e; cases r with | tup h rr => exact ⟨_, _, rfl, .inr h.sq, rr⟩
  · cases e; cases r with | flst h rr => exact ⟨_, _, rfl, .inl h.sq, rr⟩
  · split at e
    · rename_i h
      cases e
      obtain ⟨a, rfl, ha, vs, hv, rr⟩ := RV.obj_of rl r h
      exact ⟨a, vs, rfl, .inl (lof hv), rr⟩
    · cases e
  · cases e
def keyD : D → Option Key
  | .int i => some (.inl i)
  | .str z => some (.inr z)
  | _ => none
theorem keyD_ok {d : D} {x : V} {k : Key} (r : RV K m H d x) (e : keyD d = some k) : x = kV k := by
  cases r <;> simp only [keyD, Option.some.injEq, reduceCtorEq] at e <;> subst e <;> rfl
/-- the pairs of a dict -/
def kvsD (S : Store) : D → Option (List (Key × D))
  | .obj i => (match S[i]? with
    | some (.dict kvs) => some kvs
    | some (.fdict kvs) => some kvs
    | _ => none)
  | _ => none
end
end Dz
/-! ### in, subscripts, slices, built-ins -/
namespace Dz
open PySem PySem.Spec PyProof.Rows L2 Fz
section
variable {X : Cx} {K : PySem.W.Frag} {G : Gd} {W : WX} {m : List Addr} {S : Store} {H : Hp} {σ : L2.St} {a b : Expr} {fa fb : Fe} {pos : Pos}
def gInS (n : Bool) (d e : D) (S : Store) : Res D := match e with
  | .str y => (match d with
    | .str x => .ok (.bl (inS x y != n)) S
    | _ => .bad)
  | _ => (match itemsD S e with
    | some xs => (match fltD d, fltsD xs with
      | some v, some vs => .ok (.bl (inV v vs != n)) S
      | _, _ => (match e, pyD d, pysD xs with
        | .tup _, _, _ => .bad
        | _, some p, some ps => if SeqAt.shaped p = true ∧ SeqAt.shaped (.list ps) = true then .ok (.bl ((ps.any fun z => PyData.eqv z p) != n)) S else .bad
        | _, _, _ => .bad))
    | none => .bad)
def gInK (n : Bool) (d e : D) (S : Store) : Res D := match kvsD S e, keyD d with
  | some kvs, some k => .ok (.bl ((valD kvs k).isSome != n)) S
  | _, _ => .bad
def gIn (n : Bool) (d e : D) (S : Store) : Res D := match kvsD S e with
  | some _ => gInK n d e S
  | none => gInS n d e S
theorem ne_b (b n : Bool) : (if n then !b else b) = (b != n) := by cases b <;> cases n <;> rfl
def rInU (K : PySem.W.Frag) (n : Bool) : R2 := fun x y H Q => (∃ i j, x = .str i ∧ y = .str j ∧ Q (.bl (inS i j != n)) H) ∨ (∃ p xs, y = .ref p ∧ (SqL K H p xs ∨ SqT K H p xs) ∧ flatV x = true ∧ xs.all flatV = true ∧ Q (.bl (inV x xs != n)) H) ∨
  ∃ d ds, Dp K H x d ∧ Dp K H y (.list ds) ∧ SeqAt.shaped d = true ∧ SeqAt.shaped (.list ds) = true ∧ Q (.bl ((ds.any fun z => PyData.eqv z d) != n)) H
theorem op_inU (e : X.K = K) (hu : X.A.units + 65 < cLine) : OpR X (compareOp .In) (rInU K false) := by
  subst e
  refine OpR.le (OpR.or op_inS (OpR.or op_in_seq (op_inD hu))) fun x y H Q h => ?_
  rcases h with ⟨i, j, e1, e2, q⟩ | ⟨p, xs, e1, h1, h2, h3, q⟩ | ⟨d, ds, h1, h2, h3, h4, q⟩
  · rw [Bool.bne_false] at q; exact .inl ⟨i, j, e1, e2, q⟩
  · exact .inr (.inl ⟨p, xs, e1, h1, h2, h3, by rw [ne_b]; exact q⟩)
  · rw [Bool.bne_false] at q; exact .inr (.inr ⟨d, ds, h1, h2, h3, h4, q⟩)
theorem gInS_ok {n : Bool} {W : WX} {x y : V} {d e : D} {Q : VK} (rl : Rl K m S H) (rx : RV K m H d x) (ry : RV K m H e y) (q : PR K (RV K) W m σ H (gInS n d e S) Q) : rInU K n x y H Q := by
  unfold gInS at q
  split at q
  · split at q
    · cases rx; cases ry
      exact .inl ⟨_, _, rfl, rfl, q m H _ rl .refl (.bl _)⟩
    · exact q.elim
  · split at q
    · rename_i xs hi
      obtain ⟨p, vs, rfl, hs, rv⟩ := itemsD_ok rl ry hi
      split at q
      · rename_i v ws h1 h2
        obtain ⟨rfl, h3⟩ := fltD_ok rx h1
        obtain ⟨rfl, h4⟩ := fltsD_ok rv h2
        exact .inr (.inl ⟨p, _, rfl, hs, h3, h4, q m H _ rl .refl (.bl _)⟩)
      · split at q
        · exact q.elim
        · rename_i p' ps hne h1 h2 _
          split at q
          · rename_i hh
            refine .inr (.inr ⟨p', ps, pyD_ok rx h1, ?_, hh.1, hh.2, q m H _ rl .refl (.bl _)⟩)
            rcases hs with hs | hs
            · exact .lst hs (pysD_ok rv h2)
            · unfold itemsD at hi
              split at hi
              · exact (hne _ rfl).elim
              · cases ry with | flst h rr => exact .lst h.sq (by cases hi; exact pysD_ok rr h2)
              · rename_i i
                split at hi
                · rename_i hh
                  cases hi
                  obtain ⟨a, e, ha, vs', hv, rr⟩ := RV.obj_of rl ry hh
                  cases e
                  exact .lst (lof hv) (pysD_ok rr h2)
                · cases hi
              · cases hi
          · exact q.elim
        · exact q.elim
    · exact q.elim
theorem kvsD_ok {d : D} {x : V} {kvs : List (Key × D)} (rl : Rl K m S H) (r : RV K m H d x) (e : kvsD S d = some kvs) : ∃ a es, x = .ref a ∧ Rd H a (.dK es) ∧ RKV K m H kvs es := by
  unfold kvsD at e
  split at e
  · split at e
    · rename_i hh
      cases e
      obtain ⟨a, rfl, ha, es, hv, rr⟩ := RV.obj_of rl r hh
      exact ⟨a, es, rfl, .inl hv, rr⟩
    · rename_i hh
      cases e
      obtain ⟨a, rfl, ha, o, es, hv, rr⟩ := RV.obj_of rl r hh
      exact ⟨a, es, rfl, .inr ⟨o, hv⟩, rr⟩
    · cases e
  · cases e
theorem dget_ok {d e : D} {x y : V} {kvs : List (Key × D)} {k : Key} (rl : Rl K m S H) (rx : RV K m H d x) (ry : RV K m H e y) (h1 : kvsD S d = some kvs) (h2 : keyD e = some k) :
    ∃ a o, x = .ref a ∧ DGet H a y o ∧ (match valD kvs k with
      | some d => ∃ v, o = some v ∧ RV K m H d v
      | none => o = none) := by
  obtain ⟨a, es, rfl, hr, rk⟩ := kvsD_ok rl rx h1
  have e2 := keyD_ok ry h2
  subst e2
  exact ⟨a, valV es k, rfl, .inl ⟨es, k, hr, rfl, rfl⟩, rk.val k⟩
theorem isSome_of {o : Option D} {z : Option V} (h : match o with
      | some d => ∃ v, z = some v ∧ RV K m H d v
      | none => z = none) : z.isSome = o.isSome := by
  cases o with
  | none => rw [show z = none from h]; rfl
  | some d => obtain ⟨v, rfl, _⟩ := h; rfl
theorem in_use {n : Bool} {Q : VK} (h : LE K G W (fOp (gIn n) fa fb) σ H Q) : (tOp (rInU K n) (LE K G W fa) (LE K G W fb) σ H Q) ∨ LE K G W fa σ H fun y H1 => LE K G W fb σ H1 fun x H2 => ∃ a o, x = .ref a ∧ DGet H2 a y o ∧ Q (.bl (o.isSome != n)) H2 := by
  obtain ⟨m, ρ, S, p, h⟩ := h
  cases e1 : fa ρ S with
  | bad => simp only [fOp, e1, Res.bind] at h; exact h.elim
  | exc c fs S' =>
    simp only [fOp, e1, Res.bind] at h
    exact .inl ⟨m, ρ, S, p, by rw [e1]; exact h⟩
  | ok d S1 =>
    cases e2 : fb ρ S1 with
    | bad => simp only [fOp, e1, e2, Res.bind] at h; exact h.elim
    | exc c fs S' =>
      simp only [fOp, e1, e2, Res.bind] at h
      refine .inl ⟨m, ρ, S, p, ?_⟩
      rw [e1]
      exact fun m' H' v a b c => ⟨m', ρ, S1, p.go b a, by rw [e2]; exact h.shift b⟩
    | ok e S2 =>
      simp only [fOp, e1, e2, Res.bind] at h
      unfold gIn at h
      cases e3 : kvsD S2 e with
      | none =>
        simp only [e3] at h
        refine .inl ⟨m, ρ, S, p, ?_⟩
        rw [e1]
        intro m' H' v a b c
        refine ⟨m', ρ, S1, p.go b a, ?_⟩
        rw [e2]
        intro m2 H2 v2 a2 b2 c2
        exact gInS_ok a2 (c.mono b2) c2 (h.shift (b.trans b2))
      | some kvs =>
        simp only [e3, gInK] at h
        cases e4 : keyD d with
        | none => simp only [e4] at h; exact h.elim
        | some k =>
          simp only [e4] at h
          refine .inr ⟨m, ρ, S, p, ?_⟩
          rw [e1]
          intro m' H' v a b c
          refine ⟨m', ρ, S1, p.go b a, ?_⟩
          rw [e2]
          intro m2 H2 v2 a2 b2 c2
          obtain ⟨ad, o, rfl, hg, ho⟩ := dget_ok a2 c2 (c.mono b2) e3 e4
          refine ⟨ad, o, rfl, hg, ?_⟩
          rw [isSome_of ho]
          exact h m2 H2 _ a2 (b.trans b2) (.bl _)
theorem PT.or {X : Cx} {e : Expr} {t u : TT} (h : PT X e t) (k : PT X e u) : PT X e (fun σ H Q => t σ H Q ∨ u σ H Q) := ⟨fun pins s σ H Q I q => q.elim (h.run pins s σ H Q I) (k.run pins s σ H Q I)⟩
theorem d_in (e : X.K = K) (hu : X.A.units + 65 < cLine) (ha : PE X a (LE K G W fa)) (hb : PE X b (LE K G W fb)) (hm : behindInMarks .In b = false) : PE X (.Compare a [.In] [b] pos) (LE K G W (fOp (gIn false) fa fb)) :=
  PE.le (PE.or (pe_cmpR (op_inU e hu) ha hb hm) (pe_cmp (pc_din (by omega) ha hb) hm)) fun σ H Q h => (in_use h).imp id fun h => h.mono fun v H' h => h.mono fun v H' ⟨a, o, e, g, q⟩ => ⟨a, o, e, g, by rwa [Bool.bne_false] at q⟩
/-! ### a < b < c -/
def fChain (g g' : D → D → Store → Res D) (fa fb fc : Fe) : Fe := fun ρ S => (fa ρ S).bind fun d S1 => (fb ρ S1).bind fun e S2 => (g d e S2).bind fun z S3 => match z with
  | .bl true => (fc ρ S3).bind fun f S4 => g' e f S4
  | .bl false => .ok (.bl false) S3
  | _ => .bad
theorem chain_use {g g' : D → D → Store → Res D} {fc : Fe} {r r' : R2} (o : ∀ (W : WX) m σ S H x y d e Q, Rl K m S H → RV K m H d x → RV K m H e y → PR K (RV K) W m σ H (g d e S) Q → r x y H Q)
    (o' : ∀ (W : WX) m σ S H x y d e Q, Rl K m S H → RV K m H d x → RV K m H e y → PR K (RV K) W m σ H (g' d e S) Q → r' x y H Q) {Q : VK} (h : LE K G W (fChain g g' fa fb fc) σ H Q) : tChain r r' (LE K G W fa) (LE K G W fb) (LE K G W fc) σ H Q :=
  (LX.step (R := RV K) h).mono fun x H1 ⟨m1, ρ, S1, d, p, rx, h1⟩ => ⟨m1, ρ, S1, p, (PR.bind (R := RV K) h1).mono fun y H2 ⟨m2, S2, e, rl, ext, ry, h2⟩ =>
    o W m2 σ S2 H2 x y d e _ rl (rx.mono ext) ry ((PR.bind (R := RV K) h2).mono fun z H3 ⟨m3, S3, k, rl3, ext3, rz, h3⟩ => by
      split at h3
      · cases rz
        refine ⟨true, rfl, ?_⟩
        refine ⟨m3, ρ, S3, (p.go ext rl).go ext3 rl3, (PR.bind (R := RV K) h3).mono fun w H4 ⟨m4, S4, f, rl4, ext4, rw, h4⟩ => o' W m4 σ S4 H4 y w e f Q rl4 ((ry.mono ext3).mono ext4) rw h4⟩
      · cases rz
        exact ⟨false, rfl, h3 m3 H3 _ rl3 .refl (.bl _)⟩
      · exact h3.elim)⟩
theorem t_chain {c : Expr} {fc : Fe} {op op' : CmpOp} {g g' : D → D → Store → Res D} (o : OpD X K (compareOp op) g) (o' : OpD X K (compareOp op') g') (hB : ∀ d e S, (∃ b, g' d e S = .ok (.bl b) S) ∨ g' d e S = .bad) (ha : PE X a (LE K G W fa)) (hb : PE X b (LE K G W fb)) (hc : PE X c (LE K G W fc))
    (hm : lastMarks [op, op'] [b, c] = false := by with_unfolding_all rfl) : PT X (.Compare a [op, op'] [b, c] pos) (LT K G W (tst (fChain g g' fa fb fc))) := by
  obtain ⟨r, hr, o⟩ := o
  obtain ⟨r', hr', o'⟩ := o'
  refine PT.le (pt_chain hr hr' ha hb hc hm) fun σ H Q h => chain_use (Q := fun x H' => ∃ k, x = .bl k ∧ Q k H') o o' ?_
  obtain ⟨m, ρ, S, p, h⟩ := h
  refine ⟨m, ρ, S, p, ?_⟩
  have key : ∀ r : Res D, (∀ d S, r = .ok d S → ∃ b, d = .bl b) → PR K (RB Bool) W m σ H (r.bind fun d S1 => match truth d S1 with | some b => .ok b S1 | none => .bad) Q → PR K (RV K) W m σ H r (fun x H' => ∃ k, x = .bl k ∧ Q k H') := by
    intro r hr h
    cases r with
    | bad => exact h
    | exc _ _ _ => exact h
    | ok d S1 =>
      obtain ⟨k, rfl⟩ := hr d S1 rfl
      intro m' H' v rl ext rv
      cases rv
      exact ⟨k, rfl, h m' H' k rl ext rfl⟩
  refine key _ (fun d S' e => ?_) h
  unfold fChain at e
  cases e1 : fa ρ S with
  | bad => rw [e1] at e; cases e
  | exc _ _ _ => rw [e1] at e; cases e
  | ok d1 S1 =>
    rw [e1] at e
    simp only [Res.bind] at e
    cases e2 : fb ρ S1 with
    | bad => rw [e2] at e; cases e
    | exc _ _ _ => rw [e2] at e; cases e
    | ok d2 S2 =>
      rw [e2] at e
      simp only at e
      cases e3 : g d1 d2 S2 with
      | bad => rw [e3] at e; cases e
      | exc _ _ _ => rw [e3] at e; cases e
      | ok d3 S3 =>
        rw [e3] at e
        simp only at e
        split at e
        · cases e4 : fc ρ S3 with
          | bad => rw [e4] at e; cases e
          | exc _ _ _ => rw [e4] at e; cases e
          | ok d4 S4 =>
            rw [e4] at e
            simp only at e
            rcases hB d2 d4 S4 with ⟨b, hb⟩ | hb
            · rw [hb] at e; cases e; exact ⟨b, rfl⟩
            · rw [hb] at e; cases e
        · cases e; exact ⟨false, rfl⟩
        · cases e
/-! ### subscripts -/
def ixD (d e : D) (S : Store) : Res D := match d, e with
  | .str z, .int i => if z.length ≤ sizeLine then (match atI z.cps.toList i with
    | some c => .ok (.str ⟨#[c]⟩) S
    | none => .bad) else .bad
  | d, .int i => (match itemsD S d with
    | some xs => (match atI xs i with
      | some v => .ok v S
      | none => .bad)
    | none => .bad)
  | _, _ => .bad
def gIx (d e : D) (S : Store) : Res D := match kvsD S d with
  | some kvs => (match keyD e with
    | some k => (match valD kvs k with
      | some v => .ok v S
      | none => .bad)
    | none => .bad)
  | none => ixD d e S
theorem RVs.atI {xs : List D} {vs : List V} {i : Int} {d : D} (r : RVs K m H xs vs) (e : atI xs i = some d) : ∃ v, atI vs i = some v ∧ RV K m H d v := by
  unfold L2.atI at e ⊢
  rw [← r.len]
  cases h : ixN xs.length i with
  | none => rw [h] at e; cases e
  | some j => rw [h] at e; exact r.get e
theorem ixD_ok {W : WX} {x y : V} {d e : D} {Q : VK} (rl : Rl K m S H) (rx : RV K m H d x) (ry : RV K m H e y) (q : PR K (RV K) W m σ H (ixD d e S) Q) : rIxS x y H Q ∨ rIxL K x y H Q ∨ rIxT K x y H Q := by
  unfold ixD at q
  split at q
  · split at q
    · rename_i hz
      split at q
      · rename_i c hc
        cases rx; cases ry
        exact .inl ⟨_, _, c, rfl, rfl, hz, hc, q m H _ rl .refl (.str _)⟩
      · exact q.elim
    · exact q.elim
  · split at q
    · rename_i xs hi
      split at q
      · rename_i w hw
        cases ry
        obtain ⟨p, vs, rfl, hs, rv⟩ := itemsD_ok rl rx hi
        obtain ⟨v, hv, rr⟩ := rv.atI hw
        rcases hs with hs | hs
        · exact .inr (.inl ⟨p, vs, _, v, rfl, rfl, hs, hv, q m H _ rl .refl rr⟩)
        · exact .inr (.inr ⟨p, vs, _, v, rfl, rfl, hs, hv, q m H _ rl .refl rr⟩)
      · exact q.elim
    · exact q.elim
  · exact q.elim
theorem d_ix (e : X.K = K) (hu : X.A.units + 65 < cLine) (ha : PE X a (LE K G W fa)) (hb : PE X b (LE K G W fb)) (hs : PlainIx b) (hs2 : NoSl b) : PE X (.Subscript a b pos) (LE K G W (fOp gIx fa fb)) := by
  refine PE.le (PE.or (pe_ix (IxR.or ix_str (IxR.or (k_ixL e) (k_ixT e))) ha hb hs) (pe_dget (by omega) ha hb hs2)) fun σ H Q h => ?_
  obtain ⟨m, ρ, S, p, h⟩ := h
  cases e1 : fa ρ S with
  | bad => simp only [fOp, e1, Res.bind] at h; exact h.elim
  | exc c fs S' =>
    simp only [fOp, e1, Res.bind] at h
    exact .inl ⟨m, ρ, S, p, by rw [e1]; exact h⟩
  | ok d S1 =>
    cases e2 : fb ρ S1 with
    | bad => simp only [fOp, e1, e2, Res.bind] at h; exact h.elim
    | exc c fs S' =>
      simp only [fOp, e1, e2, Res.bind] at h
      refine .inl ⟨m, ρ, S, p, ?_⟩
      rw [e1]
      exact fun m' H' v a b c => ⟨m', ρ, S1, p.go b a, by rw [e2]; exact h.shift b⟩
    | ok e S2 =>
      simp only [fOp, e1, e2, Res.bind] at h
      unfold gIx at h
      cases e3 : kvsD S2 d with
      | none =>
        simp only [e3] at h
        refine .inl ⟨m, ρ, S, p, ?_⟩
        rw [e1]
        intro m' H' v a b c
        refine ⟨m', ρ, S1, p.go b a, ?_⟩
        rw [e2]
        intro m2 H2 v2 a2 b2 c2
        exact ixD_ok a2 (c.mono b2) c2 (h.shift (b.trans b2))
      | some kvs =>
        simp only [e3] at h
        cases e4 : keyD e with
        | none => simp only [e4] at h; exact h.elim
        | some k =>
          simp only [e4] at h
          cases e5 : valD kvs k with
          | none => simp only [e5] at h; exact h.elim
          | some z =>
            simp only [e5] at h
            refine .inr ⟨m, ρ, S, p, ?_⟩
            rw [e1]
            intro m' H' v a b c
            refine ⟨m', ρ, S1, p.go b a, ?_⟩
            rw [e2]
            intro m2 H2 v2 a2 b2 c2
            obtain ⟨ad, o, rfl, hg, ho⟩ := dget_ok a2 (c.mono b2) c2 e3 e4
            rw [e5] at ho
            obtain ⟨v, rfl, rr⟩ := ho
            exact ⟨ad, v, rfl, hg, h m2 H2 _ a2 (b.trans b2) rr⟩
/-! ### slices -/
def cutL {α : Type} (xs : List α) (lo hi : Option Int) : List α := (xs.drop (HT.sIx xs.length 0 lo)).take (HT.sIx xs.length xs.length hi - HT.sIx xs.length 0 lo)
theorem RVs.cut {xs : List D} {vs : List V} (r : RVs K m H xs vs) (lo hi : Option Int) : RVs K m H (cutL xs lo hi) (cutV vs lo hi) := by
  unfold cutL cutV
  rw [← r.len]
  exact (r.drop _).take _
def slD (d : D) (lo hi : Option Int) (S : Store) : Res D := match d with
  | .str z => if z.length ≤ sizeLine then .ok (.str (cutS z lo hi)) S else .bad
  | .tup xs => .ok (.tup (cutL xs lo hi)) S
  | .flst xs => .ok (.obj S.length) (S ++ [.lst (cutL xs lo hi)])
  | .obj i => (match S[i]? with
    | some (.lst xs) => .ok (.obj S.length) (S ++ [.lst (cutL xs lo hi)])
    | _ => .bad)
  | _ => .bad
def pNone : Env → Store → Res (Option Int) := fun _ S => .ok none S
def pSome (fa : Fe) : Env → Store → Res (Option Int) := fun ρ S => (fa ρ S).bind fun d S1 => match d with
  | .int i => .ok (some i) S1
  | _ => .bad
def fSl (fa : Fe) (pl ph : Env → Store → Res (Option Int)) : Fe := fun ρ S => (fa ρ S).bind fun d S1 => (pl ρ S1).bind fun lo S2 => (ph ρ S2).bind fun hi S3 => slD d lo hi S3
abbrev LO (K : PySem.W.Frag) (G : Gd) (W : WX) (f : Env → Store → Res (Option Int)) : TO := LX K (RB (Option Int)) G W f
theorem PO.le {e : Option Expr} {t t' : TO} (h : PO X e t) (m : ∀ σ H Q, t' σ H Q → t σ H Q) : PO X e t' := ⟨fun pins s σ H Q I q => h.run pins s σ H Q I (m _ _ _ q)⟩
theorem p_none : PO X none (LO K G W pNone) := PO.le po_none fun σ H Q ⟨m, ρ, S, p, h⟩ => h m H none p.rl .refl rfl
theorem p_some (ha : PE X a (LE K G W fa)) : PO X (some a) (LO K G W (pSome fa)) := PO.le (po_some ha) fun σ H Q h =>
  (LX.step (R := RV K) h).mono fun x H1 ⟨m1, ρ, S1, d, p, rx, h1⟩ => by
    split at h1
    · cases rx
      exact ⟨_, rfl, h1 m1 H1 _ p.rl .refl rfl⟩
    · exact h1.elim
theorem slD_ok {W : WX} {x : V} {d : D} {lo hi : Option Int} {Q : VK} (rl : Rl K m S H) (rx : RV K m H d x) (q : PR K (RV K) W m σ H (slD d lo hi S) Q) : rSlS x lo hi H Q ∨ rSlLN K x lo hi H Q ∨ rSlTP K x lo hi H Q := by
  unfold slD at q
  split at q
  · split at q
    · rename_i hz
      cases rx
      exact .inl ⟨_, rfl, hz, q m H _ rl .refl (.str _)⟩
    · exact q.elim
  · cases rx with | tup h rr =>
    exact .inr (.inr ⟨_, _, rfl, h, fun b H2 s hb => q m H2 _ (rl.same s) (.same s) (.tup hb ((rr.cut lo hi).mono (.same s)))⟩)
  · cases rx with | flst h rr =>
    exact .inr (.inl ⟨_, _, rfl, h.sq, new_use rl q fun p H2 s e => ⟨_, e, (rr.cut lo hi).mono (.new s)⟩⟩)
  · split at q
    · rename_i hh
      obtain ⟨a, rfl, ha, vs, hv, rr⟩ := RV.obj_of rl rx hh
      exact .inr (.inl ⟨a, vs, rfl, lof hv, new_use rl q fun p H2 s e => ⟨_, e, (rr.cut lo hi).mono (.new s)⟩⟩)
    · exact q.elim
  · exact q.elim
theorem d_sl (e : X.K = K) {lo hi : Option Expr} {pl ph : Env → Store → Res (Option Int)} {p2 : Pos} (ha : PE X a (LE K G W fa)) (hl : PO X lo (LO K G W pl)) (hh : PO X hi (LO K G W ph)) : PE X (.Subscript a (.Slice lo hi none p2) pos) (LE K G W (fSl fa pl ph)) :=
  PE.le (pe_slice (SlR.or sl_str (SlR.or (k_slL e) (k_slTP e))) ha hl hh) fun σ H Q h =>
    (LX.step (R := RV K) h).mono fun x H1 ⟨m1, ρ, S1, d, p, rx, h1⟩ => ⟨m1, ρ, S1, p, (PR.bind (R := RB (Option Int)) h1).mono fun l H2 ⟨m2, S2, l', rl2, e2, r2, h2⟩ => by
      cases r2
      exact ⟨m2, ρ, S2, p.go e2 rl2, (PR.bind (R := RB (Option Int)) h2).mono fun u H3 ⟨m3, S3, u', rl3, e3, r3, h3⟩ => by
        cases r3
        exact slD_ok rl3 ((rx.mono e2).mono e3) h3⟩⟩
end
end Dz
/-! ### built-ins called, methods of built-in types -/
namespace Dz
open PySem PySem.Spec PyProof.Rows L2 Fz
section
variable {X : Cx} {K : PySem.W.Frag} {G : Gd} {W : WX} {m : List Addr} {S : Store} {H : Hp} {σ : L2.St} {a b e : Expr} {es : List Expr} {fa fb fo : Fe} {fr : Env → Store → Res (List D)} {pos p : Pos} {x : Str} {id T : String}
variable (X K) in
def CallD (f : Value) (g : List D → Store → Res D) : Prop := ∃ r, CallR X f r ∧ ∀ (W : WX) m σ S H xs ds Q, Rl K m S H → RVs K m H ds xs → PR K (RV K) W m σ H (g ds S) Q → r xs H Q
def fCall (g : List D → Store → Res D) (fr : Env → Store → Res (List D)) : Fe := fun ρ S => (fr ρ S).bind g
theorem call_use {g : List D → Store → Res D} {r : List V → Hp → VK → Prop} (o : ∀ (W : WX) m σ S H xs ds Q, Rl K m S H → RVs K m H ds xs → PR K (RV K) W m σ H (g ds S) Q → r xs H Q) {Q : VK} (h : LE K G W (fCall g fr) σ H Q) : tCB r (LA K G W fr) σ H Q :=
  (LX.step (R := RVs K) (k := fun _ => g) h).mono fun xs H1 ⟨m1, ρ, S1, ds, p, rx, h1⟩ => o W m1 σ S1 H1 xs ds Q p.rl rx h1
theorem d_callB {g : List D → Store → Res D} (c : CallD X K (.builtin id) g) (hg : Gl X x) (hm : X.mg x = none) (hv : bootBuiltins x = some (.builtin id)) (ha : PA X (e :: es) (LA K G W fr)) (hn : x ≠ "__name__" := by decide) (hdb : (x == ("__debug__" : Str)) = false := by decide)
    (he : starEach (e :: es) X.env = (false, eval e X.env) :: starEach es X.env := by rfl) (hpl : (backTo pos (starEach es X.env)).any (·.1) = false := by rfl) : PE X (.Call (.Name x p) (e :: es) [] pos) (LE K G W (fCall g fr)) := by
  obtain ⟨r, hr, o⟩ := c
  exact PE.le (pe_callB hr hg hm hv ha hn hdb he hpl) fun σ H Q h => call_use o h
theorem d_callTy {g : List D → Store → Res D} (c : CallD X K (.type T) g) (hg : Gl X x) (hm : X.mg x = none) (hv : bootBuiltins x = some (.type T)) (ha : PA X (e :: es) (LA K G W fr)) (hn : x ≠ "__name__" := by decide) (hdb : (x == ("__debug__" : Str)) = false := by decide)
    (he : starEach (e :: es) X.env = (false, eval e X.env) :: starEach es X.env := by rfl) (hpl : (backTo pos (starEach es X.env)).any (·.1) = false := by rfl) : PE X (.Call (.Name x p) (e :: es) [] pos) (LE K G W (fCall g fr)) := by
  obtain ⟨r, hr, o⟩ := c
  exact PE.le (pe_callTy hr hg hm hv ha hn hdb he hpl) fun σ H Q h => call_use o h
theorem RVs.one {d : D} {xs : List V} (r : RVs K m H [d] xs) : ∃ v, xs = [v] ∧ RV K m H d v := by
  cases r with | cons h t => cases t; exact ⟨_, rfl, h⟩
theorem RVs.two {d e : D} {xs : List V} (r : RVs K m H [d, e] xs) : ∃ v w, xs = [v, w] ∧ RV K m H d v ∧ RV K m H e w := by
  cases r with | cons h t => obtain ⟨w, rfl, h2⟩ := t.one; exact ⟨_, _, rfl, h, h2⟩
/-! len -/
def gLen (ds : List D) (S : Store) : Res D := match ds with
  | [.str z] => if z.length ≤ sizeLine then .ok (.int z.length) S else .bad
  | [d] => (match itemsD S d with
    | some xs => .ok (.int xs.length) S
    | none => (match d with
      | .obj i => (match S[i]? with
        | some (.dict kvs) => .ok (.int kvs.length) S
        | _ => .bad)
      | _ => .bad))
  | _ => .bad
theorem c_len (e : X.K = K) : CallD X K (.builtin "len") gLen := by
  refine ⟨_, CallR.or (k_len e) call_lenDN, fun W m σ S H xs ds Q rl r q => ?_⟩
  unfold gLen at q
  split at q
  · split at q
    · rename_i hz
      obtain ⟨v, ev, r'⟩ := r.one; clear r; subst ev; have r := r'; clear r'
      cases r
      exact .inl ⟨_, _, rfl, ⟨hz, rfl⟩, q m H _ rl .refl (.int _)⟩
    · exact q.elim
  · obtain ⟨v, ev, r'⟩ := r.one; clear r; subst ev; have r := r'; clear r'
    split at q
    · rename_i xs hi
      obtain ⟨a, vs, rfl, hs, rv⟩ := itemsD_ok rl r hi
      rw [rv.len] at q
      rcases hs with hs | hs
      · exact .inl ⟨_, vs.length, rfl, .inl ⟨vs, hs, rfl⟩, q m H _ rl .refl (.int _)⟩
      · exact .inl ⟨_, vs.length, rfl, .inr ⟨vs, hs, rfl⟩, q m H _ rl .refl (.int _)⟩
    · split at q
      · split at q
        · rename_i hh
          obtain ⟨a, rfl, ha, es, hv, rr⟩ := RV.obj_of rl r hh
          rw [rr.len] at q
          exact .inr ⟨a, es, rfl, hv, q m H _ rl .refl (.int _)⟩
        · exact q.elim
      · exact q.elim
  · exact q.elim
/-! sum, all, any, max, min -/
def intsD : List D → Option (List Int)
  | [] => some []
  | .int i :: r => (intsD r).map (i :: ·)
  | _ => none
def boolsD : List D → Option (List Bool)
  | [] => some []
  | .bl i :: r => (boolsD r).map (i :: ·)
  | _ => none
theorem intsD_ok : ∀ {ds : List D} {vs : List V} {ns : List Int}, RVs K m H ds vs → intsD ds = some ns → vs = ns.map V.int
  | _, _, _, .nil, e => by simp only [intsD] at e; cases e; rfl
  | _, _, _, .cons (d := d) h t, e => by
    cases d <;> simp only [intsD, reduceCtorEq, Option.map_eq_some_iff] at e
    obtain ⟨ns, e, rfl⟩ := e
    cases h
    rw [intsD_ok t e]
    rfl
theorem boolsD_ok : ∀ {ds : List D} {vs : List V} {ns : List Bool}, RVs K m H ds vs → boolsD ds = some ns → vs = ns.map V.bl
  | _, _, _, .nil, e => by simp only [boolsD] at e; cases e; rfl
  | _, _, _, .cons (d := d) h t, e => by
    cases d <;> simp only [boolsD, reduceCtorEq, Option.map_eq_some_iff] at e
    obtain ⟨ns, e, rfl⟩ := e
    cases h
    rw [boolsD_ok t e]
    rfl
/-- the items of a list alone -/
def listD (S : Store) : D → Option (List D)
  | .flst xs => some xs
  | .obj i => (match S[i]? with
    | some (.lst xs) => some xs
    | _ => none)
  | _ => none
theorem listD_ok {d : D} {x : V} {xs : List D} (rl : Rl K m S H) (r : RV K m H d x) (e : listD S d = some xs) : ∃ a vs, x = .ref a ∧ SqL K H a vs ∧ RVs K m H xs vs := by
  unfold listD at e
  split at e
  · cases e; cases r with | flst h rr => exact ⟨_, _, rfl, h.sq, rr⟩
  · split at e
    · rename_i h
      cases e
      obtain ⟨a, rfl, ha, vs, hv, rr⟩ := RV.obj_of rl r h
      exact ⟨a, vs, rfl, lof hv, rr⟩
    · cases e
  · cases e
def gAll (all : Bool) (ds : List D) (S : Store) : Res D := match ds with
  | [d] => (match (listD S d).bind boolsD with
    | some ns => .ok (.bl (if all then ns.all _root_.id else ns.any _root_.id)) S
    | none => .bad)
  | _ => .bad
theorem c_all (e : X.K = K) (hc : X.calm = true) : CallD X K (.builtin "all") (gAll true) := by
  refine ⟨_, k_all e hc, fun W m σ S H xs ds Q rl r q => ?_⟩
  unfold gAll at q
  split at q
  · obtain ⟨v, ev, r'⟩ := r.one; clear r; subst ev; have r := r'; clear r'
    split at q
    · rename_i ns hn
      rw [Option.bind_eq_some_iff] at hn
      obtain ⟨xs, h1, h2⟩ := hn
      obtain ⟨a, vs, rfl, hs, rv⟩ := listD_ok rl r h1
      rw [boolsD_ok rv h2] at hs
      exact ⟨a, ns, rfl, hs, q m H _ rl .refl (.bl _)⟩
    · exact q.elim
  · exact q.elim
def maxL : List Int → Int
  | [] => 0
  | [i] => i
  | i :: r => if i < maxL r then maxL r else i
def minL : List Int → Int
  | [] => 0
  | [i] => i
  | i :: r => if minL r < i then minL r else i
theorem maxL_ok : ∀ {ns : List Int}, 0 < ns.length → ∀ k, k ∈ ns → (∀ y, y ∈ ns → y ≤ k) → k = maxL ns := by
  have mem : ∀ ns : List Int, 0 < ns.length → maxL ns ∈ ns ∧ ∀ y ∈ ns, y ≤ maxL ns := by
    intro ns
    induction ns with
    | nil => intro h; cases h
    | cons i r ih =>
      intro _
      cases r with
      | nil => simp [maxL]
      | cons j r =>
        have ih := ih (by simp)
        rw [maxL] <;> try (intro z; cases z)
        split
        · refine ⟨List.mem_cons_of_mem _ ih.1, fun y hy => ?_⟩
          rcases List.mem_cons.mp hy with rfl | hy
          · omega
          · exact ih.2 y hy
        · refine ⟨List.mem_cons_self .., fun y hy => ?_⟩
          rcases List.mem_cons.mp hy with rfl | hy
          · omega
          · have := ih.2 y hy; omega
  intro ns h k hk hy
  have := mem ns h
  have h1 := this.2 k hk
  have h2 := hy _ this.1
  omega
theorem minL_ok : ∀ {ns : List Int}, 0 < ns.length → ∀ k, k ∈ ns → (∀ y, y ∈ ns → k ≤ y) → k = minL ns := by
  have mem : ∀ ns : List Int, 0 < ns.length → minL ns ∈ ns ∧ ∀ y ∈ ns, minL ns ≤ y := by
    intro ns
    induction ns with
    | nil => intro h; cases h
    | cons i r ih =>
      intro _
      cases r with
      | nil => simp [minL]
      | cons j r =>
        have ih := ih (by simp)
        rw [minL] <;> try (intro z; cases z)
        split
        · refine ⟨List.mem_cons_of_mem _ ih.1, fun y hy => ?_⟩
          rcases List.mem_cons.mp hy with rfl | hy
          · omega
          · exact ih.2 y hy
        · refine ⟨List.mem_cons_self .., fun y hy => ?_⟩
          rcases List.mem_cons.mp hy with rfl | hy
          · omega
          · have := ih.2 y hy; omega
  intro ns h k hk hy
  have := mem ns h
  have h1 := this.2 k hk
  have h2 := hy _ this.1
  omega
def gMax (ds : List D) (S : Store) : Res D := match ds with
  | [.int i, .int j] => .ok (.int (if j > i then j else i)) S
  | [d] => (match (listD S d).bind intsD with
    | some ns => if 0 < ns.length then .ok (.int (maxL ns)) S else .bad
    | none => .bad)
  | _ => .bad
theorem c_max (e : X.K = K) (hc : X.calm = true) : CallD X K (.builtin "max") gMax := by
  subst e
  refine ⟨_, CallR.or (call_maxN hc) (cr_max hc), fun W m σ S H xs ds Q rl r q => ?_⟩
  unfold gMax at q
  split at q
  · obtain ⟨v, w, rfl, r1, r2⟩ := r.two
    cases r1; cases r2
    exact .inl ⟨_, _, rfl, q m H _ rl .refl (.int _)⟩
  · obtain ⟨v, ev, r'⟩ := r.one; clear r; subst ev; have r := r'; clear r'
    split at q
    · rename_i ns hn
      rw [Option.bind_eq_some_iff] at hn
      obtain ⟨xs, h1, h2⟩ := hn
      obtain ⟨a, vs, rfl, hs, rv⟩ := listD_ok rl r h1
      rw [intsD_ok rv h2] at hs
      split at q
      · rename_i hl
        refine .inr ⟨a, ns, rfl, hs, hl, fun k hk hy => ?_⟩
        rw [maxL_ok hl k hk hy]
        exact q m H _ rl .refl (.int _)
      · exact q.elim
    · exact q.elim
  · exact q.elim
def gMin (ds : List D) (S : Store) : Res D := match ds with
  | [.int i, .int j] => .ok (.int (if j < i then j else i)) S
  | [d] => (match (listD S d).bind intsD with
    | some ns => if 0 < ns.length then .ok (.int (minL ns)) S else .bad
    | none => .bad)
  | _ => .bad
theorem c_min (e : X.K = K) (hc : X.calm = true) : CallD X K (.builtin "min") gMin := by
  subst e
  refine ⟨_, CallR.or (call_minN hc) (cr_min hc), fun W m σ S H xs ds Q rl r q => ?_⟩
  unfold gMin at q
  split at q
  · obtain ⟨v, w, rfl, r1, r2⟩ := r.two
    cases r1; cases r2
    exact .inl ⟨_, _, rfl, q m H _ rl .refl (.int _)⟩
  · obtain ⟨v, ev, r'⟩ := r.one; clear r; subst ev; have r := r'; clear r'
    split at q
    · rename_i ns hn
      rw [Option.bind_eq_some_iff] at hn
      obtain ⟨xs, h1, h2⟩ := hn
      obtain ⟨a, vs, rfl, hs, rv⟩ := listD_ok rl r h1
      rw [intsD_ok rv h2] at hs
      split at q
      · rename_i hl
        refine .inr ⟨a, ns, rfl, hs, hl, fun k hk hy => ?_⟩
        rw [minL_ok hl k hk hy]
        exact q m H _ rl .refl (.int _)
      · exact q.elim
    · exact q.elim
  · exact q.elim
/-! isinstance -/
def tyD (S : Store) : D → Option String
  | .non => some "NoneType"
  | .bl _ => some "bool"
  | .int _ => some "int"
  | .str _ => some "str"
  | .tup _ => some "tuple"
  | .flst _ => some "list"
  | .obj i => (match S[i]? with
    | some (.lst _) => some "list"
    | some (.dict _) => some "dict"
    | _ => none)
  | _ => none
theorem tyD_ok {d : D} {x : V} {t : String} (rl : Rl K m S H) (r : RV K m H d x) (e : tyD S d = some t) : TyX K H x (.type t) := by
  cases r with
  | non => cases e; exact .base .non
  | bl b => cases e; exact .base (.bl b)
  | int i => cases e; exact .base (.int i)
  | str z => cases e; exact .base (.str z)
  | tup h _ => cases e; exact ty_tup h.sq
  | flst h _ => cases e; exact ty_lst h.sq
  | obj hm =>
    simp only [tyD] at e
    split at e
    · rename_i hh
      cases e
      obtain ⟨vs, hv, _⟩ := rl.at_ _ _ _ hm hh
      exact ty_lst (lof hv)
    · rename_i hh
      cases e
      obtain ⟨vs, hv, _⟩ := rl.at_ _ _ _ hm hh
      exact .base (.dK hv)
    · cases e
  | _ => cases e
def isTy (a b : String) : Bool := a == b || (a == "bool" && b == "int")
def tyKnown : List String := ["NoneType", "bool", "int", "str", "tuple", "list", "dict"]
def tyAsked : List String := ["int", "str", "bool", "tuple", "list", "dict"]
theorem isTy_ok {a b : String} (h1 : a ∈ tyKnown) (h2 : b ∈ tyAsked) : kitB a b = some (isTy a b) := by
  have : ∀ a ∈ tyKnown, ∀ b ∈ tyAsked, kitB a b = some (isTy a b) := by decide +kernel
  exact this a h1 b h2
theorem tyD_known {d : D} {t : String} (e : tyD S d = some t) : t ∈ tyKnown := by
  unfold tyD at e
  repeat' split at e
  all_goals first
    | (cases e; decide)
    | cases e
def gIsi (ds : List D) (S : Store) : Res D := match ds with
  | [d, .ty t] => (match tyD S d with
    | some u => if t ∈ tyAsked then .ok (.bl (isTy u t)) S else .bad
    | none => .bad)
  | _ => .bad
theorem c_isi (e : X.K = K) : CallD X K (.builtin "isinstance") gIsi := by
  refine ⟨_, k_isi e, fun W m σ S H xs ds Q rl r q => ?_⟩
  unfold gIsi at q
  split at q
  · obtain ⟨v, w, rfl, r1, r2⟩ := r.two
    cases r2
    split at q
    · rename_i u hu
      split at q
      · rename_i ht
        exact ⟨v, _, .type u, .type _, _, rfl, .ty _, tyD_ok rl r1 hu, kit_ty (isTy_ok (tyD_known hu) ht), q m H _ rl .refl (.bl _)⟩
      · exact q.elim
    · exact q.elim
  · exact q.elim
/-! tuple, list -/
def gTuple (ds : List D) (S : Store) : Res D := match ds with
  | [d] => (match listD S d with
    | some xs => .ok (.tup xs) S
    | none => (match d with
      | .tup xs => .ok (.tup xs) S
      | _ => .bad))
  | _ => .bad
theorem c_tuple (e : X.K = K) : CallD X K (.type "tuple") gTuple := by
  refine ⟨_, CallR.or (k_tupleP e) (k_tupleT e), fun W m σ S H xs ds Q rl r q => ?_⟩
  unfold gTuple at q
  split at q
  · obtain ⟨v, ev, r'⟩ := r.one; clear r; subst ev; have r := r'; clear r'
    split at q
    · rename_i xs hi
      obtain ⟨a, vs, rfl, hs, rv⟩ := listD_ok rl r hi
      exact .inl ⟨a, vs, rfl, hs, fun p H2 n s e => q m H2 _ (rl.same s) (.same s) (.tup (.inl e) (rv.mono (.same s)))⟩
    · split at q
      · cases r with | tup h rr => exact .inr ⟨_, _, rfl, h.sq, q m H _ rl .refl (.tup h rr)⟩
      · exact q.elim
  · exact q.elim
def kD : Key → D
  | .inl i => .int i
  | .inr z => .str z
theorem kD_ok (k : Key) : RV K m H (kD k) (kV k) := by
  cases k
  · exact .int _
  · exact .str _
theorem kDs_ok {κ : List (Key × D)} {es : List (Key × V)} (h : RKV K m H κ es) : RVs K m H (κ.map fun kv => kD kv.1) (es.map fun kv => kV kv.1) := by
  induction h with
  | nil => exact .nil
  | cons h t ih => rw [List.map_cons, List.map_cons, h.1]; exact .cons (kD_ok _) ih
def gList (ds : List D) (S : Store) : Res D := match ds with
  | [d] => (match itemsD S d with
    | some xs => .ok (.obj S.length) (S ++ [.lst xs])
    | none => (match kvsD S d with
      | some kvs => .ok (.obj S.length) (S ++ [.lst (kvs.map fun kv => kD kv.1)])
      | none => .bad))
  | _ => .bad
theorem c_list (e : X.K = K) (hc : X.calm = true) : CallD X K (.type "list") gList := by
  refine ⟨_, CallR.or (k_list e) (call_listDN hc), fun W m σ S H xs ds Q rl r q => ?_⟩
  unfold gList at q
  split at q
  · obtain ⟨v, ev, r'⟩ := r.one; clear r; subst ev; have r := r'; clear r'
    split at q
    · rename_i xs hi
      obtain ⟨a, vs, rfl, hs, rv⟩ := itemsD_ok rl r hi
      exact .inl ⟨a, vs, rfl, hs, new_use rl q fun p H2 s e => ⟨_, e, rv.mono (.new s)⟩⟩
    · split at q
      · rename_i kvs hk
        obtain ⟨a, es, rfl, hr, rk⟩ := kvsD_ok rl r hk
        exact .inr ⟨a, es, rfl, hr, new_use rl q fun p H2 s e => ⟨_, e, (kDs_ok rk).mono (.new s)⟩⟩
      · exact q.elim
  · exact q.elim
/-! repr -/
/-- data of any kind, by their objects; n: how deep -/
def shD : Nat → Store → D → Option PyData
  | _, _, .non => some .none
  | _, _, .bl b => some (.bool b)
  | _, _, .int i => some (.int i)
  | _, _, .str z => some (.str z)
  | n + 1, S, .tup xs => (xs.mapM (shD n S)).map .tuple
  | n + 1, S, .flst xs => (xs.mapM (shD n S)).map .list
  | n + 1, S, .obj i => (match S[i]? with
    | some (.lst xs) => (xs.mapM (shD n S)).map .list
    | some (.dict kvs) => ((kvs.map (·.2)).mapM (shD n S)).map fun ds => .dict ((kvs.map fun kv => Fz.kD kv.1).zip ds)
    | _ => none)
  | _, _, _ => none
theorem shDs_ok {q : Addr} {n : Nat} (h : ∀ {d : D} {v : V} {p : PyData}, RV K m H d v → shD n S d = some p → Dq K q H v p) : ∀ {xs : List D} {vs : List V} {ps : List PyData}, RVs K m H xs vs → xs.mapM (shD n S) = some ps → DqAll K q H vs ps
  | _, _, _, .nil, e => by simp at e; subst e; exact .nil
  | _, _, _, .cons r t, e => by
    rw [List.mapM_cons] at e
    simp only [Option.bind_eq_bind, Option.bind_eq_some_iff, Option.pure_def, Option.some.injEq] at e
    obtain ⟨p, e1, ps, e2, rfl⟩ := e
    exact .cons (h r e1) (shDs_ok h t e2)
theorem vals_of {κ : List (Key × D)} {es : List (Key × V)} (h : RKV K m H κ es) : RVs K m H (κ.map (·.2)) (es.map (·.2)) := by
  induction h with
  | nil => exact .nil
  | cons h t ih => exact .cons h.2 ih
theorem keys_of {κ : List (Key × D)} {es : List (Key × V)} (h : RKV K m H κ es) : κ.map (·.1) = es.map (·.1) := by
  induction h with
  | nil => rfl
  | cons h t ih => rw [List.map_cons, List.map_cons, h.1, ih]
theorem shD_ok {q : Addr} (rl : Rl K m S H) (hH : H q = none ∧ K.lookup q = none) : ∀ {n : Nat} {d : D} {v : V} {p : PyData}, RV K m H d v → shD n S d = some p → Dq K q H v p := by
  intro n
  induction n with
  | zero =>
    intro d v p r e
    cases r <;> simp only [shD, reduceCtorEq, Option.some.injEq] at e <;> subst e
    · exact .non
    · exact .bl _
    · exact .int _
    · exact .str _
  | succ n ih =>
    intro d v p r e
    cases r with
    | non => simp only [shD, Option.some.injEq] at e; subst e; exact .non
    | bl _ => simp only [shD, Option.some.injEq] at e; subst e; exact .bl _
    | int _ => simp only [shD, Option.some.injEq] at e; subst e; exact .int _
    | str _ => simp only [shD, Option.some.injEq] at e; subst e; exact .str _
    | tup h rr =>
      simp only [shD, Option.map_eq_some_iff] at e
      obtain ⟨ps, e, rfl⟩ := e
      exact .tup h.sq (shDs_ok ih rr e)
    | @flst a _ _ h rr =>
      simp only [shD, Option.map_eq_some_iff] at e
      obtain ⟨ps, e, rfl⟩ := e
      refine .lst (fun z => ?_) h.sq (shDs_ok ih rr e)
      subst z
      rcases h with ⟨o, h⟩ | ⟨o, its, n, h, _⟩
      · rw [hH.1] at h; cases h
      · rw [hH.2] at h; cases h
    | @obj i a hm =>
      simp only [shD] at e
      have na : a ≠ q := fun z => rl.tracked hm (z ▸ hH.1)
      split at e
      · rename_i hh
        obtain ⟨vs, hv, rr⟩ := rl.at_ _ _ _ hm hh
        rw [Option.map_eq_some_iff] at e
        obtain ⟨ps, e, rfl⟩ := e
        exact .lst na (lof hv) (shDs_ok ih rr e)
      · rename_i hh
        obtain ⟨es, hv, rr⟩ := rl.at_ _ _ _ hm hh
        rw [Option.map_eq_some_iff] at e
        obtain ⟨ps, e, rfl⟩ := e
        have hk : ∀ (l : List (Key × D)) (l' : List (Key × V)), l.map (·.1) = l'.map (·.1) → (l.map fun kv => Fz.kD kv.1) = (l'.map fun kv => Fz.kD kv.1) := fun l l' h => by
          have : (l.map (·.1)).map Fz.kD = (l'.map (·.1)).map Fz.kD := by rw [h]
          rw [List.map_map, List.map_map] at this
          exact this
        rw [hk _ _ (keys_of rr)]
        exact .dct na hv (shDs_ok ih (vals_of rr) e)
      · cases e
    | glob _ => simp only [shD, reduceCtorEq] at e
    | ty _ => simp only [shD, reduceCtorEq] at e
    | exc _ => simp only [shD, reduceCtorEq] at e
def rReprQ (K : PySem.W.Frag) : List V → Hp → VK → Prop := fun xs H Q => ∃ v d k, xs = [v] ∧ (∀ q, H q = none → K.lookup q = none → Dq K q H v d) ∧ good k d = true ∧ wt d ≤ 1000000 ∧ d.depth ≤ 60 ∧ Q (.str d.shown) H
theorem k_reprQ (e : X.K = K) (hg : X.A.guards = some []) (hu : X.A.units + 64 < cLine) : CallR X (.builtin "repr") (rReprQ K) := by
  subst e
  intro pins s σ H xs us Q I r ⟨v, d, k, e, hd, hk, hw, hdp, q⟩
  have h1 : H s.heap.objs.size = none := I.hok.fresh (Nat.le_refl _)
  have h2 : X.K.lookup s.heap.objs.size = none := by
    cases h : X.K.lookup s.heap.objs.size with
    | none => rfl
    | some o => exact absurd (Heap.lt_size (I.kIn _ _ h)) (Nat.lt_irrefl _)
  exact call_reprD hg hu pins s σ H xs us Q I r ⟨_, v, d, k, e, hd _ h1 h2, hk, hw, hdp, q⟩
def gRepr (ds : List D) (S : Store) : Res D := match ds with
  | [d] => (match shD 20 S d with
    | some p => if (good true p = true ∨ good false p = true) ∧ wt p ≤ 1000000 ∧ p.depth ≤ 60 then .ok (.str p.shown) S else .bad
    | none => .bad)
  | _ => .bad
theorem c_repr (e : X.K = K) (hg : X.A.guards = some []) (hu : X.A.units + 64 < cLine) : CallD X K (.builtin "repr") gRepr := by
  refine ⟨_, k_reprQ e hg hu, fun W m σ S H xs ds Q rl r q => ?_⟩
  unfold gRepr at q
  split at q
  · obtain ⟨v, ev, r'⟩ := r.one; clear r; subst ev
    split at q
    · rename_i p' hp
      split at q
      · rename_i hh
        have hd : ∀ a, H a = none → K.lookup a = none → Dq K a H v p' := fun a h1 h2 => shD_ok rl ⟨h1, h2⟩ r' hp
        rcases hh with ⟨hk | hk, hw, hdp⟩
        · exact ⟨v, p', true, rfl, hd, hk, hw, hdp, q m H _ rl .refl (.str _)⟩
        · exact ⟨v, p', false, rfl, hd, hk, hw, hdp, q m H _ rl .refl (.str _)⟩
      · exact q.elim
    · exact q.elim
  · exact q.elim
/-! ### methods -/
def tyO (S : Store) (T : String) : D → Bool
  | .str _ => T == "str"
  | .int _ => T == "int"
  | .flst _ => T == "list"
  | .obj i => (match S[i]? with
    | some (.lst _) => T == "list"
    | some (.dict _) => T == "dict"
    | _ => false)
  | _ => false
theorem tyO_ok {d : D} {x : V} (rl : Rl K m S H) (r : RV K m H d x) (e : tyO S T d = true) : tyV K T x H := by
  cases r with
  | str z => exact beq_iff_eq.mp e
  | int z => exact beq_iff_eq.mp e
  | flst h _ => exact .inl ⟨beq_iff_eq.mp e, _, h.sq⟩
  | obj hm =>
    simp only [tyO] at e
    split at e
    · rename_i hh
      obtain ⟨vs, hv, _⟩ := rl.at_ _ _ _ hm hh
      exact .inl ⟨beq_iff_eq.mp e, _, lof hv⟩
    · rename_i hh
      obtain ⟨vs, hv, _⟩ := rl.at_ _ _ _ hm hh
      exact .inr (.inr (.inl ⟨beq_iff_eq.mp e, .inl ⟨_, hv⟩⟩))
    · cases e
  | _ => cases e
variable (X K) in
def MtD (id : String) (g : D → List D → Store → Res D) : Prop := ∃ r, MtR X id r ∧ ∀ (W : WX) m σ S H x xs d ds Q, Rl K m S H → RV K m H d x → RVs K m H ds xs → PR K (RV K) W m σ H (g d ds S) Q → r x xs H Q
def fMt (T : String) (g : D → List D → Store → Res D) (fo : Fe) (fr : Env → Store → Res (List D)) : Fe := fun ρ S => (fo ρ S).bind fun d S1 => if tyO S1 T d = true then (fr ρ S1).bind fun ds S2 => g d ds S2 else .bad
theorem d_bm (e : X.K = K) {name : Str} {o ee : Expr} {apos cpos : Pos} {g : D → List D → Store → Res D} (pa : PlainAttrs T) (slot : Slot T name id) (hty : typeOf (.builtin id) = pure (.type "method_descriptor")) (hm : MtD X K id g) (ho : PE X o (LE K G W fo)) (ha : PA X (ee :: es) (LA K G W fr))
    (hbase : attributeBase o name X.env (eval o X.env) = eval o X.env := by rfl)
    (hfew : ((backTo cpos (starEach (ee :: es) X.env)).all (fun x => !x.1) && (backToKw cpos (keywordEach [] X.env)).all (fun x => x.1.isSome)
      && decide ((ee :: es).length + ([] : List Keyword).length + (if ([] : List Keyword).isEmpty then 0 else 1) < 30)) = true := by rfl)
    (hline : (apos.endLine == cpos.line) = true := by rfl) (hs : starEach (ee :: es) X.env = (false, eval ee X.env) :: starEach es X.env := by rfl) (hplain : (backTo cpos (starEach es X.env)).any (·.1) = false := by rfl) :
    PE X (.Call (.Attribute o name apos) (ee :: es) [] cpos) (LE K G W (fMt T g fo fr)) := by
  obtain ⟨r, hr, o'⟩ := hm
  refine PE.le (k_bm e pa slot hty hr ho ha hbase hfew hline hs hplain) fun σ H Q h => (LX.step (R := RV K) h).mono fun x H1 ⟨m1, ρ, S1, d, p, rx, h1⟩ => ?_
  split at h1
  · rename_i hT
    exact ⟨tyO_ok p.rl rx hT, m1, ρ, S1, p, (PR.bind (R := RVs K) h1).mono fun xs H2 ⟨m2, S2, ds, rl, ext, rs, h2⟩ => o' W m2 σ S2 H2 x xs d ds Q rl (rx.mono ext) rs h2⟩
  · exact h1.elim
/-- a list that changes -/
theorem set_use {i : Nat} {ad : Addr} {Q : VK} {o : MO} {d : D} {v : V} {H2 : Hp} (rl : Rl K m S H) (hm : m[i]? = some ad) (h : PR K (RV K) W m σ H (.ok d (S.set i o)) Q) (b : But ad H H2) (t : Tu H H2) (ho : RO K m H2 ad o) (r : RV K m H2 d v) : Q v H2 :=
  h m H2 v (rl.set hm b t ho) ⟨fun _ _ e => e, t⟩ r
def gApp (d : D) (ds : List D) (S : Store) : Res D := match d, ds with
  | .obj i, [y] => (match S[i]? with
    | some (.lst xs) => if xs.length < sizeLine then .ok .non (S.set i (.lst (xs ++ [y]))) else .bad
    | _ => .bad)
  | _, _ => .bad
theorem m_append : MtD X K "list.append" gApp := by
  refine ⟨_, mt_appN, fun W m σ S H x xs d ds Q rl rx rs q => ?_⟩
  unfold gApp at q
  split at q
  · obtain ⟨v, ev, rv⟩ := rs.one
    subst ev
    split at q
    · rename_i hh
      split at q
      · rename_i hl
        obtain ⟨a, rfl, ha, vs, hv, rr⟩ := RV.obj_of rl rx hh
        refine ⟨a, vs, v, rfl, rfl, hv, by rw [← rr.len]; exact hl, fun H2 b e => ?_⟩
        have t := b.tu hv
        have x' : Ext m H m H2 := ⟨fun _ _ e => e, t⟩
        exact set_use rl ha q b t ⟨_, e, (rr.append (.cons rv .nil)).mono x'⟩ .non
      · exact q.elim
    · exact q.elim
  · exact q.elim
theorem RVs.dropLast {xs : List D} {vs : List V} (r : RVs K m H xs vs) : RVs K m H xs.dropLast vs.dropLast := by
  rw [List.dropLast_eq_take, List.dropLast_eq_take, r.len]
  exact r.take _
/-- count, index of truths -/
def gCount (d : D) (ds : List D) (S : Store) : Res D := match ds with
  | [.bl b] => (match (listD S d).bind boolsD with
    | some bs => .ok (.int (bs.count b : Nat)) S
    | none => .bad)
  | _ => .bad
def idxP (p : PyData) : List PyData → Option Nat
  | [] => none
  | q :: r => if PyData.eqv q p = true then some 0 else (idxP p r).map (· + 1)
def gIndex (d : D) (ds : List D) (S : Store) : Res D := match ds with
  | [y] => (match (listD S d).bind pysD, pyD y with
    | some ps, some p => if SeqAt.shaped (.list ps) = true ∧ SeqAt.shaped p = true then (match idxP p ps with
      | some j => .ok (.int (j : Nat)) S
      | none => .bad) else .bad
    | _, _ => .bad)
  | _ => .bad
def strsD : List D → Option (List Str)
  | [] => some []
  | .str i :: r => (strsD r).map (i :: ·)
  | _ => none
theorem strsD_ok : ∀ {ds : List D} {vs : List V} {ns : List Str}, RVs K m H ds vs → strsD ds = some ns → vs = ns.map V.str
  | _, _, _, .nil, e => by simp only [strsD] at e; cases e; rfl
  | _, _, _, .cons (d := d) h t, e => by
    cases d <;> simp only [strsD, reduceCtorEq, Option.map_eq_some_iff] at e
    obtain ⟨ns, e, rfl⟩ := e
    cases h
    rw [strsD_ok t e]
    rfl
end
end Dz
/-! ### targets, statements, calls, defs -/
namespace Dz
open PySem PySem.Spec PyProof.Rows L2 Fz
/-! slots that stay -/
theorem wipe_get (σ : L2.St) (js : List Nat) (i : Nat) : (wipe σ js)[i]? = if i ∈ js ∧ i < σ.length then some none else σ[i]? := by
  induction js with
  | nil => simp [wipe]
  | cons j r ih =>
    rw [wipe, List.getElem?_set]
    by_cases h : j = i
    · subst h
      rw [if_pos rfl, wipe_length]
      by_cases hl : j < σ.length
      · rw [if_pos hl, if_pos ⟨List.mem_cons_self .., hl⟩]
      · rw [if_neg hl, if_neg (fun z => hl z.2)]
        exact (List.getElem?_eq_none (by omega)).symm
    · rw [if_neg h, ih]
      have : (i ∈ j :: r) ↔ i ∈ r := by simp [List.mem_cons, Ne.symm h]
      simp [this]
theorem Ag.wipe {js : List Nat} {σ σ' : L2.St} (h : Ag js σ σ') : wipe σ js = wipe σ' js := by
  apply List.ext_getElem?
  intro i
  rw [wipe_get, wipe_get, h.1]
  by_cases hi : i ∈ js
  · by_cases hl : i < σ'.length
    · rw [if_pos ⟨hi, hl⟩, if_pos ⟨hi, hl⟩]
    · rw [if_neg (fun z => hl z.2), if_neg (fun z => hl z.2), List.getElem?_eq_none (by rw [h.1]; omega), List.getElem?_eq_none (by omega)]
  · rw [if_neg (fun z => hi z.1), if_neg (fun z => hi z.1)]
    exact h.2 i hi
theorem Ag.refl {js : List Nat} {σ : L2.St} : Ag js σ σ := ⟨rfl, fun _ _ => rfl⟩
/-! targets -/
abbrev Ft := D → Env → Store → Res Env
abbrev Fts := List D → Env → Store → Res Env
def PRt (K : PySem.W.Frag) (G : Gd) (js : List Nat) (m : List Addr) (σ : L2.St) (H : Hp) (r : Res Env) (Q : L2.St → Hp → Prop) : Prop := match r with
  | .ok ρ' S' => ∀ m' H' σ', G.g σ' → Rl K m' S' H' → Ext m H m' H' → En K m' H' σ' ρ' → Ag js σ σ' → Q σ' H'
  | _ => False
def LG (K : PySem.W.Frag) (G : Gd) (js : List Nat) (tg : Ft) : TG := fun v σ H Q => ∃ m ρ S d, Pre K G m ρ S σ H ∧ RV K m H d v ∧ PRt K G js m σ H (tg d ρ S) Q
def LGs (K : PySem.W.Frag) (G : Gd) (js : List Nat) (tg : Fts) : TGs := fun vs σ H Q => ∃ m ρ S ds, Pre K G m ρ S σ H ∧ RVs K m H ds vs ∧ PRt K G js m σ H (tg ds ρ S) Q
theorem PG.le {X : Cx} {e : Expr} {t t' : TG} (h : PG X e t) (m : ∀ v σ H Q, t' v σ H Q → t v σ H Q) : PG X e t' := ⟨fun pins s σ H v u Q I r q => h.run pins s σ H v u Q I r (m _ _ _ _ q)⟩
theorem PGs.le {X : Cx} {e : List Expr} {t t' : TGs} (h : PGs X e t) (m : ∀ v σ H Q, t' v σ H Q → t v σ H Q) : PGs X e t' := ⟨fun pins s σ H v u Q I r q => h.run pins s σ H v u Q I r (m _ _ _ _ q)⟩
def tgName (i : Nat) : Ft := fun d ρ S => .ok (ρ.set i (some d)) S
def tgNil : Fts := fun ds ρ S => match ds with
  | [] => .ok ρ S
  | _ => .bad
def tgCons (t : Ft) (u : Fts) : Fts := fun ds ρ S => match ds with
  | d :: r => (t d ρ S).bind fun ρ1 S1 => u r ρ1 S1
  | [] => .bad
def tgTup (n : Nat) (u : Fts) : Ft := fun d ρ S => match d with
  | .tup ds => if ds.length = n then u ds ρ S else .bad
  | .obj l => (match S[l]? with
    | some (.lst ds) => if ds.length = n then u ds ρ S else .bad
    | _ => .bad)
  | _ => .bad
abbrev GKeep (G : Gd) (js : List Nat) : Prop := ∀ σ σ', Ag js σ σ' → G.g σ → G.g σ'
section
variable {X : Cx} {K : PySem.W.Frag} {G : Gd} {W : WX} {m : List Addr} {S : Store} {H : Hp} {σ : L2.St} {a b e : Expr} {es : List Expr} {fa fb fo : Fe} {fr : Env → Store → Res (List D)} {pos p : Pos} {x : Str}
theorem g_name {i : Nat} (h : PG X a (gName i)) (hG : GKeep G [i]) : PG X a (LG K G [i] (tgName i)) := PG.le h fun v σ H Q ⟨m, ρ, S, d, p, r, q⟩ => q m H _ (hG _ _ Ag.set p.g) p.rl .refl (p.en.set r i) Ag.set
theorem g_nil : PGs X [] (LGs K G [] tgNil) := PGs.le pgs_nil fun vs σ H Q ⟨m, ρ, S, ds, p, r, q⟩ => by
  unfold tgNil at q
  split at q
  · cases r
    exact ⟨rfl, q m H σ p.g p.rl .refl p.en Ag.refl⟩
  · exact q.elim
theorem g_cons {t : Ft} {u : Fts} {js ks : List Nat} (h1 : PG X a (LG K G js t)) (h2 : PGs X es (LGs K G ks u)) (hs : (assignEach (a :: es) X.env).map (·.2) = assign a X.env :: (assignEach es X.env).map (·.2) := by rfl) : PGs X (a :: es) (LGs K G (js ++ ks) (tgCons t u)) :=
  PGs.le (pgs_cons h1 h2 hs) fun vs σ H Q ⟨m, ρ, S, ds, p, r, q⟩ => by
    unfold tgCons at q
    split at q
    · rename_i d rs
      cases r with | cons h t' =>
      refine ⟨_, _, rfl, m, ρ, S, _, p, h, ?_⟩
      cases e1 : t d ρ S with
      | bad => rw [e1] at q; exact q.elim
      | exc _ _ _ => rw [e1] at q; exact q.elim
      | ok ρ1 S1 =>
        rw [e1] at q
        simp only [Res.bind] at q
        intro m1 H1 σ1 g1 rl1 x1 en1 ag1
        refine ⟨m1, ρ1, S1, _, p.to x1 g1 rl1 en1, t'.mono x1, ?_⟩
        cases e2 : u rs ρ1 S1 with
        | bad => rw [e2] at q; exact q.elim
        | exc _ _ _ => rw [e2] at q; exact q.elim
        | ok ρ2 S2 =>
          rw [e2] at q
          exact fun m2 H2 σ2 g2 rl2 x2 en2 ag2 => q m2 H2 σ2 g2 rl2 (x1.trans x2) en2 (ag1.trans ag2)
    · exact q.elim
theorem pg_or {t1 t2 : TG} {e : Expr} (h1 : PG X e t1) (h2 : PG X e t2) : PG X e (fun v σ H Q => t1 v σ H Q ∨ t2 v σ H Q) := ⟨fun pins s σ H v u Q I r h => h.elim (fun h => h1.run pins s σ H v u Q I r h) fun h => h2.run pins s σ H v u Q I r h⟩
theorem g_tup (ek : X.K = K) {u : Fts} {js : List Nat} {k n : Nat} (hc : X.calm = true) (h : PGs X es (LGs K G js u)) (hn : (assignEach es X.env).length = n := by rfl) (hst : (assignEach es X.env).findIdx? (·.1) = none := by rfl) :
    PG X (.Tuple es k pos) (LG K G js (tgTup n u)) := PG.le (pg_or (k_gtup ek hc h hn hst) (ek ▸ pg_unl hc h hn hst)) fun v σ H Q ⟨m, ρ, S, d, p, r, q⟩ => by
  unfold tgTup at q
  split at q
  · split at q
    · rename_i hl
      cases r with | tup hs rr =>
      exact .inl ⟨_, _, rfl, hs.sq, by rw [← rr.len]; exact hl, m, ρ, S, _, p, rr, q⟩
    · exact q.elim
  · split at q
    · rename_i e1
      split at q
      · rename_i hl
        obtain ⟨a, rfl, ha, vs, hv, r1⟩ := RV.obj_of p.rl r e1
        exact .inr ⟨a, vs, rfl, .inl (.inl hv), by rw [← r1.len]; exact hl, m, ρ, S, _, p, r1, q⟩
      · exact q.elim
    · exact q.elim
  · exact q.elim
/-! statements -/
def PSR (K : PySem.W.Frag) (G : Gd) (W : WX) (m : List Addr) (H : Hp) (r : SRes) (Dn : Ends) : Prop := match r with
  | .nx ρ' S' => ∀ m' H' σ', G.g σ' → Rl K m' S' H' → Ext m H m' H' → En K m' H' σ' ρ' → Dn.nx σ' H'
  | .bk ρ' S' => ∀ m' H' σ', G.g σ' → Rl K m' S' H' → Ext m H m' H' → En K m' H' σ' ρ' → Dn.bk σ' H'
  | .ct ρ' S' => ∀ m' H' σ', G.g σ' → Rl K m' S' H' → Ext m H m' H' → En K m' H' σ' ρ' → Dn.ct σ' H'
  | .rt d S' => ∀ m' H' v, Rl K m' S' H' → Ext m H m' H' → RV K m' H' d v → Dn.rt v H'
  | .ex c fs ρ' S' => ∀ m' H' σ' dd es, G.g σ' → Rl K m' S' H' → Ext m H m' H' → En K m' H' σ' ρ' → H' dd = some (.xd es) → RKV K m' H' fs es → W (.ref (He.ga K c)) (some dd) σ' H'
  | .bad => False
def LS (K : PySem.W.Frag) (G : Gd) (W : WX) (s : Fs) : TS := fun Dn σ H => ∃ m ρ S, Pre K G m ρ S σ H ∧ PSR K G W m H (s ρ S) Dn
theorem PSR.shift {m1 : List Addr} {H1 : Hp} {r : SRes} {Dn : Ends} (h : PSR K G W m H r Dn) (x : Ext m H m1 H1) : PSR K G W m1 H1 r Dn := by
  cases r with
  | nx ρ S => exact fun m' H' σ' a b c => h m' H' σ' a b (x.trans c)
  | bk ρ S => exact fun m' H' σ' a b c => h m' H' σ' a b (x.trans c)
  | ct ρ S => exact fun m' H' σ' a b c => h m' H' σ' a b (x.trans c)
  | rt d S => exact fun m' H' v a b => h m' H' v a (x.trans b)
  | ex c fs ρ S => exact fun m' H' σ' dd es a b c => h m' H' σ' dd es a b (x.trans c)
  | bad => exact h
/-- an expression in a statement -/
def Res.then {α : Type} (ρ : Env) (r : Res α) (k : α → Store → SRes) : SRes := match r with
  | .ok a S => k a S
  | .exc c fs S => .ex c fs ρ S
  | .bad => .bad
theorem PSR.bind {α β : Type} {R : List Addr → Hp → α → β → Prop} {r : Res α} {k : α → Store → SRes} {Dn : Ends} {ρ : Env} (p : Pre K G m ρ S σ H) (h : PSR K G W m H (r.then ρ k) Dn) :
    PR K R W m σ H r (fun x H1 => ∃ m1 S1 d, Pre K G m1 ρ S1 σ H1 ∧ Ext m H m1 H1 ∧ R m1 H1 d x ∧ PSR K G W m1 H1 (k d S1) Dn) := by
  cases r with
  | ok d S' => exact fun m' H' v a b c => ⟨m', S', d, p.go b a, b, c, PSR.shift h b⟩
  | exc c fs S' => exact fun m' H' dd es a b c d => h m' H' σ dd es p.g a b (p.en.mono b) c d
  | bad => exact h
def sExpr (fa : Fe) : Fs := fun ρ S => (fa ρ S).then ρ fun _ S1 => .nx ρ S1
def sRet (fa : Fe) : Fs := fun ρ S => (fa ρ S).then ρ fun d S1 => .rt d S1
def sRetN : Fs := fun _ S => .rt .non S
def sNext : Fs := fun ρ S => .nx ρ S
def sBreak : Fs := fun ρ S => .bk ρ S
def sCont : Fs := fun ρ S => .ct ρ S
def sSeq (t u : Fs) : Fs := fun ρ S => (t ρ S).seq u
def sIf (t : Env → Store → Res Bool) (u v : Fs) : Fs := fun ρ S => (t ρ S).then ρ fun b S1 => if b = true then u ρ S1 else v ρ S1
def sAsg (fa : Fe) (tg : Ft) : Fs := fun ρ S => (fa ρ S).then ρ fun d S1 => match tg d ρ S1 with
  | .ok ρ' S' => .nx ρ' S'
  | _ => .bad
variable {s t u : Fs} {st : Stmt} {rest : List Stmt}
theorem s_expr (ha : PE X a (LE K G W fa)) (hs : swapsWith a none pos.line X.env = pure false := by rfl) : PS X (.Expr a pos) (LS K G W (sExpr fa)) := PS.le (ps_expr ha hs) fun Dn σ H ⟨m, ρ, S, p, h⟩ =>
  ⟨m, ρ, S, p, (PSR.bind (R := RV K) p h).mono fun v H1 ⟨m1, S1, d, p1, x1, r, h1⟩ => h1 m1 H1 σ p1.g p1.rl .refl p1.en⟩
theorem s_ret (ha : PE X a (LE K G W fa)) : PS X (.Return (some a) pos) (LS K G W (sRet fa)) := PS.le (ps_ret ha) fun Dn σ H ⟨m, ρ, S, p, h⟩ =>
  ⟨m, ρ, S, p, (PSR.bind (R := RV K) p h).mono fun v H1 ⟨m1, S1, d, p1, x1, r, h1⟩ => h1 m1 H1 v p1.rl .refl r⟩
theorem ss_nil : PSs X [] (LS K G W sNext) := PSs.le pss_nil fun Dn σ H ⟨m, ρ, S, p, h⟩ => h m H σ p.g p.rl .refl p.en
theorem ss_one (h : PS X st (LS K G W t)) : PSs X [st] (LS K G W t) := pss_one h
theorem seq_use {Dn : Ends} (h : LS K G W (sSeq t u) Dn σ H) : LS K G W t { Dn with nx := LS K G W u Dn } σ H := by
  obtain ⟨m, ρ, S, p, h⟩ := h
  refine ⟨m, ρ, S, p, ?_⟩
  unfold sSeq at h
  cases e : t ρ S with
  | nx ρ' S' =>
    rw [e] at h
    exact fun m' H' σ' a b c d => ⟨m', ρ', S', p.to c a b d, PSR.shift h c⟩
  | bk _ _ => rw [e] at h; exact h
  | ct _ _ => rw [e] at h; exact h
  | rt _ _ => rw [e] at h; exact h
  | ex _ _ _ _ => rw [e] at h; exact h
  | bad => rw [e] at h; exact h
theorem ss_cons (h1 : PS X st (LS K G W t)) (h2 : PSs X rest (LS K G W u)) : PSs X (st :: rest) (LS K G W (sSeq t u)) := PSs.le (pss_cons h1 h2) fun Dn σ H h => seq_use h
theorem s_if {c : Expr} {aa bb : List Stmt} {tc : Env → Store → Res Bool} (hc : PT X c (LT K G W tc)) (ha : PSs X aa (LS K G W t)) (hb : PSs X bb (LS K G W u)) : PS X (.If c aa bb pos) (LS K G W (sIf tc t u)) := PS.le (ps_if hc ha hb) fun Dn σ H ⟨m, ρ, S, p, h⟩ =>
  ⟨m, ρ, S, p, (PSR.bind (R := RB Bool) p h).mono fun v H1 ⟨m1, S1, d, p1, x1, r, h1⟩ => by
    cases r
    cases v with
    | true => exact ⟨m1, ρ, S1, p1, h1⟩
    | false => exact ⟨m1, ρ, S1, p1, h1⟩⟩
theorem asg_use {tg : Ft} {js : List Nat} {Dn : Ends} (h : LS K G W (sAsg fa tg) Dn σ H) : tAsg (LE K G W fa) (LG K G js tg) Dn σ H := by
  obtain ⟨m, ρ, S, p, h⟩ := h
  refine ⟨m, ρ, S, p, (PSR.bind (R := RV K) p h).mono fun v H1 ⟨m1, S1, d, p1, x1, r, h1⟩ => ⟨m1, ρ, S1, d, p1, r, ?_⟩⟩
  cases e : tg d ρ S1 with
  | ok ρ' S' => rw [e] at h1; exact fun m' H' σ' a b c d _ => h1 m' H' σ' a b c d
  | exc _ _ _ => rw [e] at h1; exact h1
  | bad => rw [e] at h1; exact h1
theorem s_asg {tg : Ft} {js : List Nat} {tge : Expr} (ha : PE X a (LE K G W fa)) (hg : PG X tge (LG K G js tg)) (hs : swapsWithSole [tge] a pos.line X.env = pure false := by rfl) (hw : swappedStores [tge] a X.env = pure none := by rfl)
    (h1 : (assignEach [tge] X.env).map (·.2) = [assign tge X.env] := by rfl) : PS X (.Assign [tge] a pos) (LS K G W (sAsg fa tg)) := PS.le (ps_asg ha hg hs hw h1) fun Dn σ H h => asg_use h
theorem s_set {i : Nat} {pos' : Pos} (hN : X.N.Nodup) (hi : X.N[i]? = some x) (hx : Loc X.env.scope x) (ha : PE X a (LE K G W fa)) (hG : GKeep G [i]) (hs : swapsWith a (some (.Name x pos')) pos.line X.env = pure false := by rfl) (hf : X.fn x = true ∨ X.env.scope.names.lookup x = some .local := by first | exact .inl rfl | exact .inr rfl | assumption) :
    PS X (.Assign [.Name x pos'] a pos) (LS K G W (sAsg fa (tgName i))) := PS.le (ps_set hN hi hx ha hs hf) fun Dn σ H h => (asg_use (js := [i]) h).mono fun v H' ⟨m, ρ, S, d, p, r, q⟩ => q m H' _ (hG _ _ Ag.set p.g) p.rl .refl (p.en.set r i) Ag.set
def sPar (i j : Nat) (fr : Env → Store → Res (List D)) : Fs := fun ρ S => (fr ρ S).then ρ fun ds S1 => match ds with
  | [d, e] => .nx ((ρ.set i (some d)).set j (some e)) S1
  | _ => .bad
theorem s_par {i j : Nat} {xx yy : Str} {px py pt : Pos} {kt k2 : Nat} {pt2 : Pos} (hc : X.calm = true) (hN : X.N.Nodup) (hi : X.N[i]? = some xx) (hj : X.N[j]? = some yy) (hij : i ≠ j)
    (hx : X.env.scope.names.lookup xx = some .local) (hy : X.env.scope.names.lookup yy = some .local) (ha : PA X [a, b] (LA K G W fr)) (hG : GKeep G ([i] ++ [j]))
    (hw : swappedStores [.Tuple [.Name xx px, .Name yy py] kt pt] (.Tuple [a, b] k2 pt2) X.env = pure (some [xx, yy]))
    (hs : swapsWithSole [.Tuple [.Name xx px, .Name yy py] kt pt] (.Tuple [a, b] k2 pt2) pos.line X.env = pure false := by rfl) :
    PS X (.Assign [.Tuple [.Name xx px, .Name yy py] kt pt] (.Tuple [a, b] k2 pt2) pos) (LS K G W (sPar i j fr)) := PS.le (ps_par hc hN hi hj hij hx hy ha hw hs) fun Dn σ H ⟨m, ρ, S, p, h⟩ =>
  ⟨m, ρ, S, p, (PSR.bind (R := RVs K) p h).mono fun vs H1 ⟨m1, S1, ds, p1, x1, r, h1⟩ => by
    split at h1
    · obtain ⟨v, w, rfl, r1, r2⟩ := r.two
      exact ⟨v, w, rfl, h1 m1 H1 _ (hG _ _ (Ag.set.trans Ag.set) p1.g) p1.rl .refl ((p1.en.set r1 i).set r2 j)⟩
    · exact h1.elim⟩
def sPar3 (i j l : Nat) (fr : Env → Store → Res (List D)) : Fs := fun ρ S => (fr ρ S).then ρ fun ds S1 => match ds with
  | [d, e, f] => .nx (((ρ.set i (some d)).set j (some e)).set l (some f)) S1
  | _ => .bad
/-! x += e, numbers -/
/-! o[i] = e -/
def setIx (o i v : D) (S : Store) : Option Store := match o with
  | .obj n => (match S[n]?, i with
    | some (.lst xs), .int k => (match ixN xs.length k with
      | some j => some (S.set n (.lst (xs.set j v)))
      | none => none)
    | some (.dict kvs), i => (match keyD i with
      | some k => if kvs.length < sizeLine then some (S.set n (.dict (putD kvs k v))) else none
      | none => none)
    | _, _ => none)
  | _ => none
def sSetIx (fo fi fv : Fe) : Fs := fun ρ S => (fv ρ S).then ρ fun v S1 => (fo ρ S1).then ρ fun o S2 => (fi ρ S2).then ρ fun i S3 => match setIx o i v S3 with
  | some S4 => .nx ρ S4
  | none => .bad
theorem PS.or {t u : TS} (h : PS X st t) (k : PS X st u) : PS X st (fun Dn σ H => t Dn σ H ∨ u Dn σ H) := ⟨fun pins s σ H Q I q => q.elim (h.run pins s σ H Q I) (k.run pins s σ H Q I)⟩
end
end Dz
/-! ### stores to places, dicts, calls of defs, loops, comprehensions -/
namespace Dz
open PySem PySem.Spec PyProof.Rows L2 Fz
section
variable {X : Cx} {K : PySem.W.Frag} {G : Gd} {W : WX} {m : List Addr} {S : Store} {H : Hp} {σ : L2.St} {a b e o i value : Expr} {es : List Expr} {fa fb fo fi fv : Fe} {fr : Env → Store → Res (List D)} {pos pos' p : Pos} {x : Str}
theorem setix_run {v o i : D} {vv ov iv : V} {S' : Store} {Dn : Ends} {ρ : Env} (p : Pre K G m ρ S σ H) (r1 : RV K m H v vv) (r2 : RV K m H o ov) (r3 : RV K m H i iv) (e : setIx o i v S = some S') (h : PSR K G W m H (.nx ρ S') Dn) :
    rSetN ov iv vv H (fun H' => Dn.nx σ H') ∨ ∃ a H4, ov = .ref a ∧ DPut H a iv vv H4 ∧ Dn.nx σ H4 := by
  unfold setIx at e
  split at e
  · split at e
    · rename_i hh
      split at e
      · rename_i j hj
        cases e
        cases r3
        obtain ⟨ad, rfl, ha, vs, hv, rr⟩ := RV.obj_of p.rl r2 hh
        refine .inl ⟨ad, vs, _, j, rfl, rfl, hv, by rw [← rr.len]; exact hj, fun H2 b e => ?_⟩
        have t := b.tu hv
        have x' : Ext m H m H2 := ⟨fun _ _ e => e, t⟩
        exact h m H2 σ p.g (p.rl.set ha b t ⟨_, e, (rr.mono x').set (r1.mono x') j⟩) x' (p.en.mono x')
      · cases e
    · rename_i hh
      split at e
      · rename_i k hk
        split at e
        · rename_i hl
          cases e
          obtain ⟨ad, rfl, ha, vs, hv, rr⟩ := RV.obj_of p.rl r2 hh
          have e3 := keyD_ok r3 hk
          subst e3
          refine .inr ⟨ad, _, rfl, DPut.k hv (by rw [← rr.len]; exact hl), ?_⟩
          have b : But ad H (upd H ad (.dK (putK vs k vv))) := But.set
          have t := b.tuD hv
          have x' : Ext m H m (upd H ad (.dK (putK vs k vv))) := ⟨fun _ _ e => e, t⟩
          exact h m _ σ p.g (p.rl.set ha b t ⟨_, upd_same, (rr.mono x').put k (r1.mono x')⟩) x' (p.en.mono x')
        · cases e
      · cases e
    · cases e
  · cases e
theorem s_setix (hu : X.A.units + 65 < cLine) (ho : PE X o (LE K G W fo)) (hi : PE X i (LE K G W fi)) (hv : PE X value (LE K G W fv)) (hs : swapsWith value (some (.Subscript o i pos')) pos.line X.env = pure false)
    (ha : ∀ v, assign (.Subscript o i pos') X.env v = (do
      let ov ← holding [v] (eval o X.env)
      let iv ← holding [v, ov] (eval i X.env)
      standAt pos'
      holding [v, ov, iv] (setItem ov iv v)
      release [v, ov, iv] []) := by intro _; rfl)
    (hs2 : swapsWithSole [.Subscript o i pos'] value pos.line X.env = pure false := by rfl) (hw : swappedStores [.Subscript o i pos'] value X.env = pure none := by rfl) (h1 : (assignEach [.Subscript o i pos'] X.env).map (·.2) = [assign (.Subscript o i pos') X.env] := by rfl) :
    PS X (.Assign [.Subscript o i pos'] value pos) (LS K G W (sSetIx fo fi fv)) := by
  refine PS.le (PS.or (ps_asg hv (pg_sub ho hi set_listN ha) hs2 hw h1) (ps_dput (by omega) ho hi hv hs)) fun Dn σ H h => ?_
  obtain ⟨m, ρ, S, p, h⟩ := h
  unfold sSetIx at h
  cases e1 : fv ρ S with
  | bad => rw [e1] at h; exact h.elim
  | exc c fs S' =>
    rw [e1] at h
    exact .inl ⟨m, ρ, S, p, by rw [e1]; exact fun m' H' dd es a b c d => h m' H' σ dd es p.g a b (p.en.mono b) c d⟩
  | ok v S1 =>
    rw [e1] at h
    simp only [Res.then] at h
    cases e2 : fo ρ S1 with
    | bad => rw [e2] at h; exact h.elim
    | exc c fs S' =>
      rw [e2] at h
      refine .inl ⟨m, ρ, S, p, ?_⟩
      rw [e1]
      exact fun m1 H1 vv a b c => ⟨m1, ρ, S1, p.go b a, by rw [e2]; exact fun m' H' dd es a2 b2 c2 d2 => h m' H' σ dd es p.g a2 (b.trans b2) (p.en.mono (b.trans b2)) c2 d2⟩
    | ok o' S2 =>
      rw [e2] at h
      simp only at h
      cases e3 : fi ρ S2 with
      | bad => rw [e3] at h; exact h.elim
      | exc c fs S' =>
        rw [e3] at h
        refine .inl ⟨m, ρ, S, p, ?_⟩
        rw [e1]
        intro m1 H1 vv a b c
        refine ⟨m1, ρ, S1, p.go b a, ?_⟩
        rw [e2]
        intro m2 H2 ov a2 b2 c2
        refine ⟨m2, ρ, S2, p.go (b.trans b2) a2, ?_⟩
        rw [e3]
        exact fun m' H' dd es a3 b3 c3 d3 => h m' H' σ dd es p.g a3 ((b.trans b2).trans b3) (p.en.mono ((b.trans b2).trans b3)) c3 d3
      | ok i' S3 =>
        rw [e3] at h
        simp only at h
        cases e4 : setIx o' i' v S3 with
        | none => rw [e4] at h; exact h.elim
        | some S4 =>
          rw [e4] at h
          have fin : ∀ m1 H1 vv m2 H2 ov m3 H3 iv, Ext m H m1 H1 → RV K m1 H1 v vv → Ext m1 H1 m2 H2 → RV K m2 H2 o' ov → Rl K m3 S3 H3 → Ext m2 H2 m3 H3 → RV K m3 H3 i' iv → (rSetN ov iv vv H3 (fun H' => Dn.nx σ H') ∨ ∃ a H4, ov = .ref a ∧ DPut H3 a iv vv H4 ∧ Dn.nx σ H4) :=
            fun m1 H1 vv m2 H2 ov m3 H3 iv x1 r1 x2 r2 rl3 x3 r3 => setix_run (p.go ((x1.trans x2).trans x3) rl3) (r1.mono (x2.trans x3)) (r2.mono x3) r3 e4 (PSR.shift h ((x1.trans x2).trans x3))
          by_cases isL : ∃ n xs, o' = .obj n ∧ S3[n]? = some (.lst xs)
          · obtain ⟨n, xs, rfl, hn⟩ := isL
            refine .inl ⟨m, ρ, S, p, ?_⟩
            rw [e1]
            intro m1 H1 vv a b c
            refine ⟨m1, ρ, S1, p.go b a, ?_⟩
            rw [e2]
            intro m2 H2 ov a2 b2 c2
            refine ⟨m2, ρ, S2, p.go (b.trans b2) a2, ?_⟩
            rw [e3]
            intro m3 H3 iv a3 b3 c3
            rcases fin m1 H1 vv m2 H2 ov m3 H3 iv b c b2 c2 a3 b3 c3 with q | ⟨ad, H4, rfl, hd, _⟩
            · exact q
            · obtain ⟨ad', e', ha', vs, hv, _⟩ := RV.obj_of a3 (c2.mono b3) hn
              cases e'
              rcases hd with ⟨kvs, k, h1, _⟩ | ⟨kvs, k, b, h1, _⟩
              · rw [hv] at h1; cases h1
              · rw [hv] at h1; cases h1
          · refine .inr ⟨m, ρ, S, p, ?_⟩
            rw [e1]
            intro m1 H1 vv a b c
            refine ⟨m1, ρ, S1, p.go b a, ?_⟩
            rw [e2]
            intro m2 H2 ov a2 b2 c2
            refine ⟨m2, ρ, S2, p.go (b.trans b2) a2, ?_⟩
            rw [e3]
            intro m3 H3 iv a3 b3 c3
            rcases fin m1 H1 vv m2 H2 ov m3 H3 iv b c b2 c2 a3 b3 c3 with ⟨ad, xs, k, j, rfl, e6, hv, _⟩ | q
            · exfalso
              unfold setIx at e4
              split at e4
              · rename_i n
                split at e4
                · rename_i hh; exact isL ⟨_, _, rfl, hh⟩
                · rename_i hh
                  obtain ⟨ad', e', ha', vs, hv', _⟩ := RV.obj_of a3 (c2.mono b3) hh
                  cases e'
                  rw [hv] at hv'
                  cases hv'
                · cases e4
              · cases e4
            · exact q
/-! d.get(k), d.get(k, x), d.pop(k), d.pop(k, x) -/
def fDnew : Fe := fun _ S => .ok (.obj S.length) (S ++ [.dict []])
theorem d_dnew : PE X (.Dict [] [] pos) (LE K G W fDnew) := PE.le pe_dnewN fun σ H Q ⟨m, ρ, S, p, h⟩ => new_use p.rl h fun q H2 s e => ⟨[], e, .nil⟩
/-- {'k': c} -/
def fDisp1 (k : Str) (d : D) : Fe := fun _ S => .ok (.obj S.length) (S ++ [.dict [(Sum.inr k, d)]])
/-! ### calls of defs -/
def spF (K : PySem.W.Frag) (F : Fn) (n : Nat) : Sp := fun vs H Q E => ∃ m ds S, Rl K m S H ∧ RVs K m H ds vs ∧ ds.length = n ∧ PR K (RV K) (fun c d _ H => E c d H) m [] H (F ds S) Q
theorem PR.wx {W W' : WX} {σ' : L2.St} {r : Res D} {Q : VK} (h : PR K (RV K) W m σ H r Q) (w : ∀ c d H, W c d σ H → W' c d σ' H) : PR K (RV K) W' m σ' H r Q := by
  cases r with
  | ok d S' => exact h
  | exc c fs S' => exact fun m' H' dd es a b c d => w _ _ _ (h m' H' dd es a b c d)
  | bad => exact h
section
variable {k n : Nat} {F : Fn} {ps : List Str} {fd : FuncData}
def fCallN (n : Nat) (F : Fn) (fr : Env → Store → Res (List D)) : Fe := fun ρ S => (fr ρ S).bind fun ds S1 => if ds.length = n then F ds S1 else .bad
theorem d_call (ek : X.K = K) (Df' : Df X.prog X.w X.K X.mg X.base (L2.CX X.prog X.w) k x ps (spF K F n)) (hr : RoomG k X.A) (hg : Gl X x) (hx : ∀ σ, PassesAt (L2.CX X.prog X.w) X σ (WE W σ)) (ha : PA X (e :: es) (LA K G W fr))
    (hdb : (x == ("__debug__" : Str)) = false := by decide) (he : starEach (e :: es) X.env = (false, eval e X.env) :: starEach es X.env := by rfl) (hpl : (backTo pos (starEach es X.env)).any (·.1) = false := by rfl) :
    PE X (.Call (.Name x p) (e :: es) [] pos) (LE K G W (fCallN n F fr)) := PE.le (pe_clS Df' hr hg hx ha hdb he hpl) fun σ H Q h =>
  (LX.step (R := RVs K) (k := fun _ ds S1 => if ds.length = n then F ds S1 else .bad) h).mono fun vs H1 ⟨m1, ρ, S1, ds, p, rx, h1⟩ => by
    split at h1
    · rename_i hl
      exact ⟨m1, ds, S1, p.rl, rx, hl, h1.wx fun _ _ _ z => z⟩
    · exact h1.elim
/-- by keywords; g: how the arguments come to the parameters -/
def fCallK (n q : Nat) (g : List D → List D → List D) (N : Nat) (F : Fn) (fr fk : Env → Store → Res (List D)) : Fe := fun ρ S => (fr ρ S).bind fun ds S1 => (fk ρ S1).bind fun es S2 => if ds.length = n ∧ es.length = q ∧ (g ds es).length = N then F (g ds es) S2 else .bad
structure GRel (g : List D → List D → List D) (gV : List V → List V → List V) : Prop where
  rel : ∀ K m H ds es vs ws, RVs K m H ds vs → RVs K m H es ws → RVs K m H (g ds es) (gV vs ws)
theorem PK.le {kws : List Keyword} {t t' : TA} (h : PK X kws t) (m : ∀ σ H Q, t' σ H Q → t σ H Q) : PK X kws t' := ⟨fun pos pins s σ H Q I q => h.run pos pins s σ H Q I (m _ _ _ q)⟩
theorem k_nil : PK X [] (LA K G W aNil) := PK.le pk_nil fun σ H Q ⟨m, ρ, S, p, h⟩ => h m H [] p.rl .refl .nil
theorem k_cons {nm : Option Str} {kp : Pos} {kws : List Keyword} {fk : Env → Store → Res (List D)} (ha : PE X a (LE K G W fa)) (hr : PK X kws (LA K G W fk)) : PK X (⟨nm, a, kp⟩ :: kws) (LA K G W (aCons fa fk)) := PK.le (pk_cons ha hr) fun σ H Q h =>
  (LX.step (R := RV K) h).mono fun x H1 ⟨m1, ρ, S1, d, p, rx, h1⟩ => ⟨m1, ρ, S1, p, (PR.bind (R := RVs K) h1).mono fun y H2 ⟨m2, S2, e, rl, ext, ry, h2⟩ => h2 m2 H2 _ rl .refl (.cons (rx.mono ext) ry)⟩
end
/-- nothing is raised here -/
theorem passN : ∀ σ, PassesAt (L2.CX X.prog X.w) X σ (WE (fun _ _ _ _ => False) σ) := fun σ pins H s e s' I ⟨_, _, _, _, _, _, _, _, _, _, _, _, z⟩ => z.elim
/-- what a callee lets out leaves the def -/
theorem passD {E : XK} {E₁ : Value → Shared → Prop} (hs : X.stack = X.env :: X.outer) (hf : X.env.frame = some X.env.locals) (hex : X.ex = [])
    (hx : X.xe = fun e s' => wpAny (model X.prog X.w) X.A (leaving X.env e) (fun _ s'' => L2.CX X.prog X.w X.outer X.H_0 X.s_0 E e s'') E₁ s') : ∀ σ, PassesAt (L2.CX X.prog X.w) X σ (WE (fun c d _ H => E c d H) σ) := fun σ pins H s e s' I q => passE hs hf hex hx pins σ H s e s' I q
/-- a def, by its body -/
def outF (r : SRes) : Res D := match r with
  | .rt d S => .ok d S
  | .nx _ S => .ok .non S
  | .ex c fs _ S => .exc c fs S
  | _ => .bad
def startD (N : List Str) (ds : List D) : Env := (ds.map some) ++ List.replicate (N.length - ds.length) none
theorem start_en {N : List Str} {ds : List D} {vs : List V} (r : RVs K m H ds vs) (hN : N.length = N.length) : En K m H (L2.start N vs) (startD N ds) := by
  unfold L2.start startD
  rw [← r.len]
  refine paired_append ?_ ?_
  · have : ∀ {xs : List D} {ws : List V}, RVs K m H xs ws → Paired (RO1 K m H) (ws.map some) (xs.map some) := by
      intro xs
      induction xs with
      | nil => intro ws h; cases h; exact .nil
      | cons x xs ih => intro ws h; cases h with | cons h t => exact .cons h (ih t)
    exact this r
  · have : ∀ n, Paired (RO1 K m H) (List.replicate n none) (List.replicate n none) := by
      intro n
      induction n with
      | zero => exact .nil
      | succ n ih => exact .cons trivial ih
    exact this _
end
section
variable {P : Program} {w : World} {K : PySem.W.Frag} {mg : Str → Option Value} {base : Heap} {k : Nat} {f : Addr} {fd : FuncData} {ps N : List Str}
def bodyF (N : List Str) (s : Fs) : Fn := fun ds S => outF (s (startD N ds) S)
theorem fn_deep {x qual : Str} {params : Arguments} {body : List Stmt} {scope : Scope} {dvs : List V} {kws : List (Str × V)} {s : Fs} (F : FunD K x qual params body scope dvs kws f fd) (S : FnScope N ps scope)
    (hb : ∀ (cdv : Value) (A : Around) (outer : List PySem.Env) (sh : Shared) (H : Hp) (E : XK), RoomG k (A.deeper (envOfC qual scope sh.heap.objs.size f cdv)) → PSs (cxOf (L2.CX P w) P w K mg base N qual scope f cdv A outer sh H E) body (LS K G0 (fun c d _ H => E c d H) s)) :
    FnG P w K mg base (L2.CX P w) (k + 1) f fd ps (spF K (bodyF N s) ps.length) := by
  refine F.okG S (fun vs H Q E h => ?_) (fun cdv A outer sh H vs Q E hr h => ⟨_, hb cdv A outer sh H E hr, ?_⟩)
  · obtain ⟨m, ds, S', rl, r, hl, _⟩ := h
    rw [← r.len]
    exact hl
  · obtain ⟨m, ds, S', rl, r, hl, h⟩ := h
    refine ⟨m, startD N ds, S', ⟨trivial, ⟨m, H, trivial, .refl⟩, rl, start_en r rfl⟩, ?_⟩
    unfold bodyF outF at h
    cases e : s (startD N ds) S' with
    | nx ρ S1 => rw [e] at h; exact fun m' H' σ' _ a b _ => h m' H' .non a b .non
    | rt d S1 => rw [e] at h; exact fun m' H' v a b c => h m' H' v a b c
    | ex c fs ρ S1 => rw [e] at h; exact fun m' H' σ' dd es _ a b _ c d => h m' H' dd es a b c d
    | bk _ _ => rw [e] at h; exact h.elim
    | ct _ _ => rw [e] at h; exact h.elim
    | bad => rw [e] at h; exact h.elim
end
end Dz
/-! ### loops, comprehensions -/
namespace Dz
open PySem PySem.Spec PyProof.Rows L2 Fz
/-- what is walked -/
inductive ItD where
  | vals (xs : List D)
  | lst (l : Nat)
def itAt (J : ItD) (S : Store) (i : Nat) : Option (Option D) := match J with
  | .vals xs => some xs[i]?
  | .lst l => (match S[l]? with
    | some (.lst xs) => some xs[i]?
    | _ => none)
def itLen (J : ItD) (S : Store) : Nat := match J with
  | .vals xs => xs.length
  | .lst l => (match S[l]? with
    | some (.lst xs) => xs.length
    | _ => 0)
def ItOk (K : PySem.W.Frag) (m : List Addr) (H : Hp) (it : ItD) (J : It) : Prop := ∀ m' S' H', Ext m H m' H' → Rl K m' S' H' → ∀ i, match itAt it S' i with
  | some (some d) => J.go i H' ∧ ∀ x H2, J.yld i H' x H2 → Same H' H2 ∧ RV K m' H2 d x
  | some none => J.stop i H'
  | none => True
abbrev LI (K : PySem.W.Frag) (G : Gd) (W : WX) (f : Env → Store → Res ItD) : TI := fun σ H R => LX K (ItOk K) G W f σ H R
theorem PI.le {X : Cx} {tg iter : Expr} {t t' : TI} (h : PI X tg iter t) (m : ∀ σ H R, t' σ H R → t σ H R) : PI X tg iter t' := ⟨fun pins s σ H R I q => h.run pins s σ H R I (m _ _ _ q)⟩
theorem PI.or {X : Cx} {tg iter : Expr} {t u : TI} (h : PI X tg iter t) (k : PI X tg iter u) : PI X tg iter (fun σ H R => t σ H R ∨ u σ H R) := ⟨fun pins s σ H R I q => q.elim (h.run pins s σ H R I) (k.run pins s σ H R I)⟩
section
variable {X : Cx} {K : PySem.W.Frag} {G : Gd} {W : WX} {m : List Addr} {S : Store} {H : Hp} {σ : L2.St} {a b e tg : Expr} {es : List Expr} {fa fb : Fe} {fr : Env → Store → Res (List D)} {pos p : Pos} {x : Str}
/-- a list, a tuple, a text -/
def iSeq (fa : Fe) : Env → Store → Res ItD := fun ρ S => (fa ρ S).bind fun d S1 => match d with
  | .tup xs => .ok (.vals xs) S1
  | .flst xs => .ok (.vals xs) S1
  | .str z => .ok (.vals (z.cps.toList.map fun c => .str ⟨#[c]⟩)) S1
  | .obj l => (match S1[l]? with
    | some (.lst _) => .ok (.lst l) S1
    | _ => .bad)
  | _ => .bad
theorem vals_itt {ad : Addr} {xs : List D} {vs : List V} (h : SqT K H ad vs) (r : RVs K m H xs vs) : ItOk K m H (.vals xs) (Itt K ad) := by
  intro m' S' H' x rl i
  have h' := x.tu.tup h
  have r' := r.mono x
  show match some xs[i]? with | some (some d) => _ | some none => _ | none => True
  cases e : xs[i]? with
  | none =>
    refine ⟨vs, h', ?_⟩
    have := List.getElem?_eq_none_iff.mp e
    rw [r.len] at this
    exact this
  | some d =>
    obtain ⟨v, hv, rv⟩ := r'.get e
    exact ⟨⟨vs, v, h', hv⟩, fun y H2 ⟨e2, hy⟩ => by
      subst e2
      have := hy vs h'
      rw [hv] at this
      cases this
      exact ⟨Same.refl _, rv⟩⟩
theorem vals_itl {ad : Addr} {xs : List D} {vs : List V} (h : FzL K H ad vs) (r : RVs K m H xs vs) : ItOk K m H (.vals xs) (Itl K ad) := by
  intro m' S' H' x rl i
  have h' := (h.tu x.tu).sq
  have r' := r.mono x
  show match some xs[i]? with | some (some d) => _ | some none => _ | none => True
  cases e : xs[i]? with
  | none =>
    refine ⟨vs, h', ?_⟩
    have := List.getElem?_eq_none_iff.mp e
    rw [r.len] at this
    exact this
  | some d =>
    obtain ⟨v, hv, rv⟩ := r'.get e
    exact ⟨⟨vs, v, h', hv⟩, fun y H2 ⟨e2, hy⟩ => by
      subst e2
      have := hy vs h'
      rw [hv] at this
      cases this
      exact ⟨Same.refl _, rv⟩⟩
theorem lst_itl {ad : Addr} {l : Nat} (hm : m[l]? = some ad) : ItOk K m H (.lst l) (Itl K ad) := by
  intro m' S' H' x rl i
  unfold itAt
  simp only
  cases e : S'[l]? with
  | none => trivial
  | some o =>
    cases o with
    | lst xs =>
      obtain ⟨vs, hv, rr⟩ := rl.at_ _ _ _ (x.pre _ _ hm) e
      simp only
      cases e2 : xs[i]? with
      | none =>
        refine ⟨vs, lof hv, ?_⟩
        have := List.getElem?_eq_none_iff.mp e2
        rw [rr.len] at this
        exact this
      | some d =>
        obtain ⟨v, hv2, rv⟩ := rr.get e2
        exact ⟨⟨vs, v, lof hv, hv2⟩, fun y H2 ⟨e2, hy⟩ => by
          subst e2
          have := hy vs (lof hv)
          rw [hv2] at this
          cases this
          exact ⟨Same.refl _, rv⟩⟩
    | dict _ => trivial
    | fdict _ => trivial
    | inst _ _ => trivial
theorem vals_its {z : Str} : ItOk K m H (.vals (z.cps.toList.map fun c => .str ⟨#[c]⟩)) (Its z) := by
  intro m' S' H' x rl i
  show match some (z.cps.toList.map fun c => D.str ⟨#[c]⟩)[i]? with | some (some d) => _ | some none => _ | none => True
  rw [List.getElem?_map, Array.getElem?_toList]
  cases e : z.cps[i]? with
  | none => exact Array.getElem?_eq_none_iff.mp e
  | some c =>
    exact ⟨(Array.getElem?_eq_some_iff.mp e).1, fun y H2 ⟨e2, c', hc, hy⟩ => by
      subst e2
      rw [e] at hc
      cases hc
      subst hy
      exact ⟨Same.refl _, .str _⟩⟩
theorem i_seq (ek : X.K = K) (ha : PE X a (LE K G W fa)) : PI X tg a (LI K G W (iSeq fa)) := by
  refine PI.le (PI.or (PI.or (k_ilist ek ha) (k_itup ek ha)) (pi_str ha)) fun σ H R h => ?_
  obtain ⟨m, ρ, S, p, h⟩ := h
  unfold iSeq at h
  cases e1 : fa ρ S with
  | bad => rw [e1] at h; exact h.elim
  | exc c fs S' => rw [e1] at h; exact .inl (.inl ⟨m, ρ, S, p, by rw [e1]; exact h⟩)
  | ok d S1 =>
    rw [e1] at h
    simp only [Res.bind] at h
    split at h
    · refine .inl (.inr ⟨m, ρ, S, p, ?_⟩)
      rw [e1]
      intro m' H' v rl x r
      cases r with | tup hs rr => exact ⟨_, rfl, ⟨_, hs.sq⟩, h m' H' _ rl x (vals_itt hs.sq rr)⟩
    · refine .inl (.inl ⟨m, ρ, S, p, ?_⟩)
      rw [e1]
      intro m' H' v rl x r
      cases r with | flst hs rr => exact ⟨_, rfl, ⟨_, hs.sq⟩, h m' H' _ rl x (vals_itl hs rr)⟩
    · refine .inr ⟨m, ρ, S, p, ?_⟩
      rw [e1]
      intro m' H' v rl x r
      cases r
      exact ⟨_, rfl, h m' H' _ rl x vals_its⟩
    · split at h
      · rename_i hh
        refine .inl (.inl ⟨m, ρ, S, p, ?_⟩)
        rw [e1]
        intro m' H' v rl x r
        obtain ⟨ad, rfl, hm, vs, hv, rr⟩ := RV.obj_of rl r hh
        exact ⟨_, rfl, ⟨_, lof hv⟩, h m' H' _ rl x (lst_itl hm)⟩
      · exact h.elim
    · exact h.elim
/-- range -/
def rngD (lo : Int) (n : Nat) : List D := (List.range n).map fun k => .int (lo + (k : Nat))
def jRng1 (fr : Env → Store → Res (List D)) : Env → Store → Res ItD := fun ρ S => (fr ρ S).bind fun ds S1 => match ds with
  | [.int j] => if -(2 ^ 62) ≤ j ∧ j < 2 ^ 62 then .ok (.vals (rngD 0 j.toNat)) S1 else .bad
  | _ => .bad
def jRng2 (fr : Env → Store → Res (List D)) : Env → Store → Res ItD := fun ρ S => (fr ρ S).bind fun ds S1 => match ds with
  | [.int i, .int j] => if -(2 ^ 62) ≤ i ∧ i < 2 ^ 62 ∧ -(2 ^ 62) ≤ j ∧ j < 2 ^ 62 then .ok (.vals (rngD i (j - i).toNat)) S1 else .bad
  | _ => .bad
theorem vals_itr {lo : Int} {n : Nat} : ItOk K m H (.vals (rngD lo n)) (Itr lo n) := by
  intro m' S' H' x rl i
  show match some (rngD lo n)[i]? with | some (some d) => _ | some none => _ | none => True
  unfold rngD
  rw [List.getElem?_map]
  by_cases h : i < n
  · rw [List.getElem?_range h]
    exact ⟨h, fun y H2 ⟨e2, hy⟩ => by subst e2 hy; exact ⟨Same.refl _, .int _⟩⟩
  · rw [List.getElem?_eq_none (by simp; omega)]
    exact Nat.le_of_not_lt h
theorem i_rng1 (hg : Gl X "range") (hm : X.mg "range" = none) (ha : PA X [a] (LA K G W fr)) (hs : starEach [a] X.env = [(false, eval a X.env)] := by rfl) : PI X tg (.Call (.Name "range" p) [a] [] pos) (LI K G W (jRng1 fr)) :=
  PI.le (pi_range1 hg hm ha hs) fun σ H R h => (LX.step (R := RVs K) h).mono fun vs H1 ⟨m1, ρ, S1, ds, p, r, h1⟩ => by
    split at h1
    · split at h1
      · rename_i hj
        obtain ⟨v, rfl, r1⟩ := r.one
        cases r1
        exact ⟨_, rfl, hj.1, hj.2, h1 m1 H1 _ p.rl .refl vals_itr⟩
      · exact h1.elim
    · exact h1.elim
theorem i_rng2 (hg : Gl X "range") (hm : X.mg "range" = none) (ha : PA X [a, b] (LA K G W fr)) (hs : starEach [a, b] X.env = [(false, eval a X.env), (false, eval b X.env)] := by rfl) (hs2 : starEach [b] X.env = [(false, eval b X.env)] := by rfl) :
    PI X tg (.Call (.Name "range" p) [a, b] [] pos) (LI K G W (jRng2 fr)) :=
  PI.le (pi_range2 hg hm ha hs hs2) fun σ H R h => (LX.step (R := RVs K) h).mono fun vs H1 ⟨m1, ρ, S1, ds, p, r, h1⟩ => by
    split at h1
    · split at h1
      · rename_i hj
        obtain ⟨v, w, rfl, r1, r2⟩ := r.two
        cases r1; cases r2
        exact ⟨_, _, rfl, hj, h1 m1 H1 _ p.rl .refl vals_itr⟩
      · exact h1.elim
    · exact h1.elim
/-! ### for -/
def forD (J : ItD) (tg : Ft) (body : Fs) : Nat → Nat → Env → Store → SRes
  | 0, i, ρ, S => (match itAt J S i with
    | some none => .nx ρ S
    | _ => .bad)
  | n + 1, i, ρ, S => (match itAt J S i with
    | some none => .nx ρ S
    | some (some d) => (match tg d ρ S with
      | .ok ρ1 S1 => (match body ρ1 S1 with
        | .nx ρ2 S2 => forD J tg body n (i + 1) ρ2 S2
        | .ct ρ2 S2 => forD J tg body n (i + 1) ρ2 S2
        | .bk ρ2 S2 => .nx ρ2 S2
        | r => r)
      | _ => .bad)
    | none => .bad)
def sFor (it : Env → Store → Res ItD) (tg : Ft) (body : Fs) : Fs := fun ρ S => (it ρ S).then ρ fun J S1 => forD J tg body (itLen J S1) 0 ρ S1
theorem for_use {J : ItD} {Jt : It} {t : Ft} {js : List Nat} {s : Fs} {Dn : Ends} {ρ : Env} (n : Nat) (p : Pre K G m ρ S σ H) (hJ : ItOk K m H J Jt) (h : PSR K G W m H (forD J t s n 0 ρ S) Dn) :
    ∃ Wv : Nat → Nat → L2.St → Hp → Prop, (∃ k, Wv 0 k σ H) ∧ ∀ i k σ H, Wv i k σ H → (Jt.stop i H ∧ Dn.nx σ H) ∨ (Jt.go i H ∧ ∃ N : L2.St → Hp → Prop, (∀ σ' H', N σ' H' → ∃ k', k' < k ∧ Wv (i + 1) k' σ' H') ∧
      ∀ x H', Jt.yld i H x H' → LG K G js t x σ H' fun σ2 H2 => LS K G W s { Dn with nx := N, ct := N, bk := Dn.nx } σ2 H2) := by
  refine ⟨fun i n σ' H' => ∃ m' ρ S, Pre K G m' ρ S σ' H' ∧ Ext m H m' H' ∧ PSR K G W m' H' (forD J t s n i ρ S) Dn, ⟨n, m, ρ, S, p, .refl, h⟩, ?_⟩
  rintro i k σ' H' ⟨m', ρ, S, p, x, h⟩
  have hi := hJ m' S H' x p.rl i
  cases k with
  | zero =>
    unfold forD at h
    cases e : itAt J S i with
    | none => rw [e] at h; exact h.elim
    | some o =>
      cases o with
      | some d => rw [e] at h; exact h.elim
      | none => rw [e] at h hi; exact .inl ⟨hi, h m' H' σ' p.g p.rl .refl p.en⟩
  | succ k =>
    unfold forD at h
    cases e : itAt J S i with
    | none => rw [e] at h; exact h.elim
    | some o =>
      cases o with
      | none => rw [e] at h hi; exact .inl ⟨hi, h m' H' σ' p.g p.rl .refl p.en⟩
      | some d =>
        rw [e] at h hi
        simp only at h hi
        refine .inr ⟨hi.1, _, fun σ2 H2 z => ⟨k, Nat.lt_succ_self k, z⟩, fun xx H2 hy => ?_⟩
        obtain ⟨s2, r2⟩ := hi.2 xx H2 hy
        have x2 : Ext m' H' m' H2 := .same s2
        refine ⟨m', ρ, S, d, p.go x2 (p.rl.same s2), r2, ?_⟩
        cases e1 : t d ρ S with
        | bad => rw [e1] at h; exact h.elim
        | exc _ _ _ => rw [e1] at h; exact h.elim
        | ok ρ1 S1 =>
          rw [e1] at h
          simp only at h
          intro m3 H3 σ3 g3 rl3 x3 en3 ag3
          have X3 : Ext m' H' m3 H3 := x2.trans x3
          refine ⟨m3, ρ1, S1, p.to X3 g3 rl3 en3, ?_⟩
          cases e2 : s ρ1 S1 with
          | nx ρ2 S2 =>
            rw [e2] at h
            exact fun m4 H4 σ4 g4 rl4 x4 en4 => ⟨m4, ρ2, S2, p.to (X3.trans x4) g4 rl4 en4, x.trans (X3.trans x4), PSR.shift h (X3.trans x4)⟩
          | ct ρ2 S2 =>
            rw [e2] at h
            exact fun m4 H4 σ4 g4 rl4 x4 en4 => ⟨m4, ρ2, S2, p.to (X3.trans x4) g4 rl4 en4, x.trans (X3.trans x4), PSR.shift h (X3.trans x4)⟩
          | bk ρ2 S2 =>
            rw [e2] at h
            exact fun m4 H4 σ4 g4 rl4 x4 en4 => h m4 H4 σ4 g4 rl4 (X3.trans x4) en4
          | rt d S2 =>
            rw [e2] at h
            exact fun m4 H4 v rl4 x4 r4 => h m4 H4 v rl4 (X3.trans x4) r4
          | ex c fs ρ2 S2 =>
            rw [e2] at h
            exact fun m4 H4 σ4 dd es g4 rl4 x4 => h m4 H4 σ4 dd es g4 rl4 (X3.trans x4)
          | bad => rw [e2] at h; exact h
theorem s_for {it : Env → Store → Res ItD} {t : Ft} {js : List Nat} {body : List Stmt} {s : Fs} {iter : Expr} (hp : PassesOwn (model X.prog X.w) X.A X.env X.xe) (hc : X.calm = true) (hi : PI X tg iter (LI K G W it)) (hg : PG X tg (LG K G js t)) (hb : PSs X body (LS K G W s))
    (hs : ∀ x, foldedSetIterable iter X.env x = pure x := by intro _; rfl) : PS X (.For tg iter body [] pos) (LS K G W (sFor it t s)) := PS.le (ps_for hp hc hi hg hb hs) fun Dn σ H ⟨m, ρ, S, p, h⟩ =>
  ⟨m, ρ, S, p, (PSR.bind (R := ItOk K) p h).mono fun Jt H1 ⟨m1, S1, J, p1, x1, hJ, h1⟩ => for_use _ p1 hJ h1⟩
/-! ### comprehensions -/
def lcD (J : ItD) (tg : Ft) (tt : Env → Store → Res Bool) (fe : Fe) (l : Nat) (ρ : Env) : Nat → Nat → Store → Res D
  | 0, i, S => (match itAt J S i with
    | some none => .ok (.obj l) S
    | _ => .bad)
  | n + 1, i, S => (match itAt J S i with
    | some none => .ok (.obj l) S
    | some (some d) => (match tg d ρ S with
      | .ok ρ1 S1 => (match tt ρ1 S1 with
        | .ok true S2 => (match fe ρ1 S2 with
          | .ok y S3 => (match S3[l]? with
            | some (.lst acc) => if acc.length < sizeLine then lcD J tg tt fe l ρ n (i + 1) (S3.set l (.lst (acc ++ [y]))) else .bad
            | _ => .bad)
          | _ => .bad)
        | .ok false S2 => lcD J tg tt fe l ρ n (i + 1) S2
        | _ => .bad)
      | _ => .bad)
    | none => .bad)
def fLc (it : Env → Store → Res ItD) (tg : Ft) (tt : Env → Store → Res Bool) (fe : Fe) (js : List Nat) : Fe := fun ρ S => (it ρ S).bind fun J S1 => lcD J tg tt fe S1.length (wipeE ρ js) (itLen J S1) 0 (S1 ++ [.lst []])
def ttYes : Env → Store → Res Bool := fun _ S => .ok true S
theorem ts_nil : PTs X [] (LT K G W ttYes) := ⟨fun pins s σ H Q I ⟨m, ρ, S, p, h⟩ => pts_nil.run pins s σ H Q I (h m H true p.rl .refl rfl)⟩
abbrev WF : WX := fun _ _ _ _ => False
theorem lc_use {J : ItD} {Jt : It} {t : Ft} {tt : Env → Store → Res Bool} {fe : Fe} {js ks : List Nat} {Q : VK} {ρ : Env} (n : Nat) (p : Pre K G m ρ S σ H) (hG : GKeep G js) (hk : ks = js) (hJ : ItOk K m H J Jt) (h : PR K (RV K) W m σ H (lcD J t tt fe S.length (wipeE ρ js) n 0 (S ++ [.lst []])) Q) :
    ∀ D, H D = none → ∃ Wv : Nat → Nat → Hp → Prop, (∃ k, Wv 0 k (upd H D (.lst []))) ∧ ∀ i k H', Wv i k H' → (Jt.stop i H' ∧ Q (.ref D) H') ∨ (Jt.go i H' ∧ ∃ Nx : Hp → Prop, (∀ H2, Nx H2 → ∃ k', k' < k ∧ Wv (i + 1) k' H2) ∧
      ∀ x H2, Jt.yld i H' x H2 → LG K G ks t x (wipe σ js) H2 fun σ2 H2 => wipe σ2 js = wipe σ js ∧ LT K G WF tt σ2 H2 fun b H3 => if b = true then LE K G WF fe σ2 H3 fun y H4 => ∃ acc, H4 D = some (.lst acc) ∧ acc.length < sizeLine ∧ Nx (upd H4 D (.lst (acc ++ [y]))) else Nx H3) := by
  subst hk
  intro D hD
  have ww : ∀ σ : L2.St, wipe (wipe σ ks) ks = wipe σ ks := fun σ => by
    apply List.ext_getElem?
    intro i
    rw [wipe_get, wipe_length, wipe_get]
    split <;> rfl
  have gw : G.g (wipe σ ks) := hG σ _ ⟨(wipe_length _ _).symm, fun i hi => by rw [wipe_get, if_neg (fun z => hi z.1)]⟩ p.g
  refine ⟨fun i n H' => ∃ m' S', m'[S.length]? = some D ∧ Rl K m' S' H' ∧ Ext m H m' H' ∧ PR K (RV K) W m' σ H' (lcD J t tt fe S.length (wipeE ρ ks) n i S') Q, ⟨n, m ++ [D], S ++ [.lst []], ?_, ?_, ?_, ?_⟩, ?_⟩
  · rw [← p.rl.len, List.getElem?_append_right (Nat.le_refl _), Nat.sub_self]; rfl
  · exact p.rl.new hD (new_same hD) ⟨[], upd_same, .nil⟩
  · exact .new (new_same hD)
  · exact h.shift (.new (new_same hD))
  rintro i k H' ⟨m', S', hm', rl, x, h⟩
  have hi := hJ m' S' H' x rl i
  have fin : lcD J t tt fe S.length (wipeE ρ ks) k i S' = .ok (.obj S.length) S' → Q (.ref D) H' := fun e => by
    rw [e] at h
    exact h m' H' _ rl .refl (.obj hm')
  cases k with
  | zero =>
    unfold lcD at h fin
    cases e : itAt J S' i with
    | none => rw [e] at h; exact h.elim
    | some o =>
      cases o with
      | some d => rw [e] at h; exact h.elim
      | none => rw [e] at hi fin; exact .inl ⟨hi, fin rfl⟩
  | succ k =>
    unfold lcD at h fin
    cases e : itAt J S' i with
    | none => rw [e] at h; exact h.elim
    | some o =>
      cases o with
      | none => rw [e] at hi fin; exact .inl ⟨hi, fin rfl⟩
      | some d =>
        clear fin
        rw [e] at h hi
        simp only at h hi
        refine .inr ⟨hi.1, _, fun H2 z => ⟨k, Nat.lt_succ_self k, z⟩, fun xx H2 hy => ?_⟩
        obtain ⟨s2, r2⟩ := hi.2 xx H2 hy
        have x2 : Ext m' H' m' H2 := .same s2
        refine ⟨m', wipeE ρ ks, S', d, p.to (x.trans x2) gw (rl.same s2) (((p.en.wipe ks).mono x).mono x2), r2, ?_⟩
        cases e1 : t d (wipeE ρ ks) S' with
        | bad => rw [e1] at h; exact h.elim
        | exc _ _ _ => rw [e1] at h; exact h.elim
        | ok ρ1 S1 =>
          rw [e1] at h
          simp only at h
          intro m3 H3 σ3 g3 rl3 x3 en3 ag3
          have X3 : Ext m' H' m3 H3 := x2.trans x3
          refine ⟨by rw [← ag3.wipe, ww], m3, ρ1, S1, p.to (x.trans X3) g3 rl3 en3, ?_⟩
          cases e2 : tt ρ1 S1 with
          | bad => rw [e2] at h; exact h.elim
          | exc _ _ _ => rw [e2] at h; exact h.elim
          | ok b S2 =>
            rw [e2] at h
            intro m4 H4 b' rl4 x4 hb'
            cases hb'
            have X4 := X3.trans x4
            cases b with
            | false => exact ⟨m4, S2, X4.pre _ _ hm', rl4, x.trans X4, h.shift X4⟩
            | true =>
              refine ⟨m4, ρ1, S2, p.to (x.trans X4) g3 rl4 (en3.mono x4), ?_⟩
              simp only at h
              cases e3 : fe ρ1 S2 with
              | bad => rw [e3] at h; exact h.elim
              | exc _ _ _ => rw [e3] at h; exact h.elim
              | ok y S3 =>
                rw [e3] at h
                simp only at h
                intro m5 H5 v rl5 x5 rv
                have X5 := X4.trans x5
                cases e4 : S3[S.length]? with
                | none => rw [e4] at h; exact h.elim
                | some o =>
                  cases o with
                  | dict _ => rw [e4] at h; exact h.elim
                  | fdict _ => rw [e4] at h; exact h.elim
                  | inst _ _ => rw [e4] at h; exact h.elim
                  | lst acc =>
                    rw [e4] at h
                    simp only at h
                    split at h
                    · rename_i hl
                      have hm5 := X5.pre _ _ hm'
                      obtain ⟨vs, hv, rr⟩ := rl5.at_ _ _ _ hm5 e4
                      have t6 : Tu H5 (upd H5 D (.lst (vs ++ [v]))) := Tu.set hv _
                      have x6 : Ext m5 H5 m5 (upd H5 D (.lst (vs ++ [v]))) := ⟨fun _ _ e => e, t6⟩
                      refine ⟨vs, hv, by rw [← rr.len]; exact hl, m5, S3.set S.length (.lst (acc ++ [y])), hm5, rl5.set hm5 But.set t6 ⟨_, upd_same, (rr.append (.cons rv .nil)).mono x6⟩, x.trans (X5.trans x6), h.shift (X5.trans x6)⟩
                    · exact h.elim
theorem d_lc {elt iter : Expr} {ifs : List Expr} {scope : Scope} {own : List (Str × Nat)} {it : Env → Store → Res ItD} {t : Ft} {tt : Env → Store → Res Bool} {fe : Fe} {js : List Nat} (hc : X.calm = true) (hN : X.N.Nodup) (hi : PI X tg iter (LI K G W it)) (ok : BlkOk X.N X.env.scope scope own) (hj : own.map (·.2) = js) (hG : GKeep G js)
    (hg : ∀ (s : Shared) (H : Hp) (C : Addr) (cl : List (Str × Addr)) (fp : List Addr), PG (X.blk s H scope (compEnvC scope cl C X.env) fp) tg (LG K G js t)) (ht : ∀ (s : Shared) (H : Hp) (C : Addr) (cl : List (Str × Addr)) (fp : List Addr), PTs (X.blk s H scope (compEnvC scope cl C X.env) fp) ifs (LT K G WF tt))
    (he : ∀ (s : Shared) (H : Hp) (C : Addr) (cl : List (Str × Addr)) (fp : List Addr), PE (X.blk s H scope (compEnvC scope cl C X.env) fp) elt (LE K G WF fe)) (hs : ∀ x, foldedSetIterable iter X.env x = pure x := by intro _; rfl) :
    PE X (.ListComp elt [⟨tg, iter, ifs, 0⟩] scope pos) (LE K G W (fLc it t tt fe js)) := by
  subst hj
  exact PE.le (pe_lc hc hN hi ok hg ht he hs) fun σ H Q h => (LX.step (R := ItOk K) h).mono fun Jt H1 ⟨m1, ρ, S1, J, p, hJ, h1⟩ => lc_use _ p hG rfl hJ h1
end
end Dz
/-! ### raise, try, what is called of an exception -/
namespace Dz
open PySem PySem.Spec PyProof.Rows L2 Fz
section
variable {X : Cx} {K : PySem.W.Frag} {G : Gd} {W : WX} {m : List Addr} {S : Store} {H : Hp} {σ : L2.St} {a b e tg : Expr} {es : List Expr} {fa fb : Fe} {fr : Env → Store → Res (List D)} {pos p : Pos} {x : Str}
def sRaise (c f : Str) (fa : Fe) : Fs := fun ρ S => (fa ρ S).then ρ fun d S1 => .ex c [(f, d)] ρ S1
/-! try -/
theorem PSs.ex {ι : Type} {st : List Stmt} {t : ι → TS} (h : ∀ j, PSs X st (t j)) : PSs X st (fun Dn σ H => ∃ j, t j Dn σ H) := ⟨fun pins s σ H Dn I ⟨j, q⟩ => (h j).run pins s σ H Dn I q⟩
/-! ### a def called of an exception -/
def fIsP (b : Bool) : Fe := fun _ S => .ok (.bl b) S
end
end Dz
/-! ### what the printed derivations lean on -/
namespace Dz
open PySem PySem.Spec PyProof.Rows L2 Fz
theorem _root_.Fz.RoomG.u65 {k : Nat} {A : Around} (r : RoomG k A) : A.units + 65 < cLine := by have := r.toRoom.un; omega
theorem _root_.Fz.RoomQ.u65 {k : Nat} {A : Around} (r : RoomQ k A) : A.units + 65 < cLine := by have := r.un; omega
theorem g0_keep {js : List Nat} : GKeep G0 js := fun _ _ _ _ => trivial
section
variable {X : Cx} {K : PySem.W.Frag} {G : Gd} {W : WX} {m : List Addr} {S : Store} {H : Hp} {σ : L2.St} {a b e tg : Expr} {es : List Expr} {fa fb : Fe} {fr : Env → Store → Res (List D)} {pos p : Pos} {x : Str}
section
variable {k n : Nat} {F : Fn} {ps : List Str} {fd : FuncData}
theorem pe_ck0S {CX : CXT} {sp : Sp} {E : L2.St → XK} {ks : List Str} {kws : List Keyword} {tk : TA} {gV : List V → List V → List V} (D : Dx X.prog X.w X.K X.mg X.base CX k x ps sp fd) (B : ∃ g, KBn X.K fd ps 0 ks g gV) (hr : RoomG k X.A) (hg : Gl X x) (hx : ∀ σ, PassesAt CX X σ (E σ))
    (hkw : PK X kws tk) (hall : (backToKw pos (keywordEach kws X.env)).all (·.1.isSome) = true := by rfl) (hks : (backToKw pos (keywordEach kws X.env)).filterMap (·.1) = ks := by rfl)
    (hdb : (x == ("__debug__" : Str)) = false := by decide) (hpl : ((backTo pos (starEach [] X.env)).any (·.1) || (backToKw pos (keywordEach kws X.env)).any (·.1.isNone)) = false := by rfl) :
    PE X (.Call (.Name x p) [] kws pos) (tCallNS 0 ks.length sp gV E tNil tk) := by
  obtain ⟨g, hb⟩ := B
  refine ⟨fun pins s σ H Q I h => ?_⟩
  refine wpAny_Call_Name_kw (ld_glob I hg D.gl ?_ hdb)
  refine PySem.W.callWith_KW0 (h₀ := X.base) I.ok.mod.kin D.kp hall (thn (hkw.run pos pins s σ H _ I h) fun ws s2 ⟨zs, H2, I2, rz, l1, l2, q2⟩ => ⟨I2.kIn, ?_⟩) hpl
  rw [hks]
  exact run_anyS D.ok hr (hb.to s2 [] ws I2.kIn rfl (rz.length.symm.trans l2)) (hx σ) I2 (hb.rel .nil rz) q2
theorem d_callK0 (ek : X.K = K) {kws : List Keyword} {ks : List Str} {fk : Env → Store → Res (List D)} {q : Nat} {g : List D → List D → List D} {gV : List V → List V → List V} {N : Nat} (D : Dx X.prog X.w X.K X.mg X.base (L2.CX X.prog X.w) k x ps (spF K F N) fd) (B : ∃ g, KBn X.K fd ps 0 ks g gV) (hG : GRel g gV) (hq : ks.length = q) (hr : RoomG k X.A) (hg : Gl X x) (hx : ∀ σ, PassesAt (L2.CX X.prog X.w) X σ (WE W σ))
    (hkw : PK X kws (LA K G W fk)) (hall : (backToKw pos (keywordEach kws X.env)).all (·.1.isSome) = true := by rfl) (hks : (backToKw pos (keywordEach kws X.env)).filterMap (·.1) = ks := by rfl)
    (hdb : (x == ("__debug__" : Str)) = false := by decide) (hpl : ((backTo pos (starEach [] X.env)).any (·.1) || (backToKw pos (keywordEach kws X.env)).any (·.1.isNone)) = false := by rfl) :
    PE X (.Call (.Name x p) [] kws pos) (LE K G W (fCallK 0 q g N F aNil fk)) := PE.le (pe_ck0S D B hr hg hx hkw hall hks hdb hpl) fun σ H Q ⟨m, ρ, S, p, h⟩ => by
  have h' : PR K (RV K) W m σ H ((fk ρ S).bind fun es S2 => if ([] : List Dz.D).length = 0 ∧ es.length = q ∧ (g [] es).length = N then F (g [] es) S2 else .bad) Q := h
  refine ⟨m, ρ, S, p, (PR.bind (R := RVs K) h').mono fun ws H2 ⟨m2, S2, es', rl, ext, ry, h2⟩ => ?_⟩
  split at h2
  · rename_i hl
    exact ⟨rfl, by rw [← ry.len, hq]; exact hl.2.1, m2, g [] es', S2, rl, hG.rel K m2 H2 _ _ _ _ .nil ry, hl.2.2, h2.wx fun _ _ _ z => z⟩
  · exact h2.elim
/-- defaults fill up -/
def fCallD (n : Nat) (dd : List D) (F : Fn) (fr : Env → Store → Res (List D)) : Fe := fun ρ S => (fr ρ S).bind fun ds S1 => if (ds ++ dd).length = n then F (ds ++ dd) S1 else .bad
end
end
/-! ### a tuple of the top -/
theorem eqCs_ok {K : PySem.W.Frag} {m : List Addr} {H : Hp} : ∀ {ds : List D} {us : List Value}, eqCs ds us = true → ∃ vs, Vals vs us ∧ RVs K m H ds vs
  | [], [], _ => ⟨[], .nil, .nil⟩
  | [], _ :: _, h => by cases h
  | _ :: _, [], h => by simp [eqCs] at h
  | d :: ds, u :: us, h => by
    simp only [eqCs, Bool.and_eq_true] at h
    obtain ⟨vs, h1, h2⟩ := eqCs_ok (K := K) (m := m) (H := H) h.2
    have h0 := h.1
    unfold eqC at h0
    split at h0
    · rename_i z y t
      have e : z = y := by simpa using h0
      subst e
      exact ⟨.str z :: vs, .cons ⟨t, rfl⟩ h1, .cons (.str z) h2⟩
    · rename_i z y t
      have e : z = y := by simpa using h0
      subst e
      exact ⟨.int z :: vs, .cons ⟨t, rfl⟩ h1, .cons (.int z) h2⟩
    · cases h0
theorem tupB_ok {K : PySem.W.Frag} {a : Addr} {ds : List D} (h : tupB K a ds = true) : ∀ m H, RV K m H (.tup ds) (.ref a) := fun m H => by
  unfold tupB at h
  split at h
  · rename_i c its n sl ho
    simp only [Bool.and_eq_true, beq_iff_eq, decide_eq_true_eq] at h
    obtain ⟨rfl, h1, h2⟩ := h
    obtain ⟨vs, h3, h4⟩ := eqCs_ok (K := K) (m := m) (H := H) h2
    exact .tup (.inr ⟨_, its, n, ho, rfl, rfl, rfl, h1, h3⟩) h4
  · cases h
end Dz
/-! ### keywords in any turn; the law's end -/
namespace Dz
open PySem PySem.Spec PyProof.Rows L2 Fz
def permD (is : List Nat) {α : Type} (ds es : List α) : List α := is.filterMap fun i => (ds ++ es)[i]?
theorem RVs.gets {K : PySem.W.Frag} {m : List Addr} {H : Hp} {xs : List D} {vs : List V} (r : RVs K m H xs vs) : ∀ is : List Nat, RVs K m H (is.filterMap fun i => xs[i]?) (is.filterMap fun i => vs[i]?)
  | [] => .nil
  | i :: is => by
    rw [List.filterMap_cons, List.filterMap_cons]
    cases e : xs[i]? with
    | none =>
      have : vs[i]? = none := List.getElem?_eq_none_iff.mpr (by rw [← r.len]; exact List.getElem?_eq_none_iff.mp e)
      rw [this]
      exact r.gets is
    | some d =>
      obtain ⟨v, hv, rv⟩ := r.get e
      rw [hv]
      exact .cons rv (r.gets is)
theorem perm_rel (is : List Nat) : GRel (permD is) (permD is) := ⟨fun K m H ds es vs ws r1 r2 => (r1.append r2).gets is⟩
theorem vals_gets {xs : List V} {us : List Value} (r : Vals xs us) : ∀ is : List Nat, Vals (is.filterMap fun i => xs[i]?) (is.filterMap fun i => us[i]?)
  | [] => .nil
  | i :: is => by
    rw [List.filterMap_cons, List.filterMap_cons]
    cases e : xs[i]? with
    | none => rw [r.none_of e]; exact vals_gets r is
    | some d =>
      obtain ⟨v, hv, rv⟩ := r.get e
      rw [hv]
      exact .cons rv (vals_gets r is)
theorem perm_vals (is : List Nat) {vs zs : List V} {us ws : List Value} (r1 : Vals vs us) (r2 : Vals zs ws) : Vals (permD is vs zs) (permD is us ws) := vals_gets (r1.append r2) is
theorem fz_of {K : PySem.W.Frag} {H : Hp} {a : Addr} {vs : List V} (o : Only H) (h : SqL K H a vs) : FzL K H a vs := by
  rcases h with (h | ⟨ob, h⟩) | h
  · rcases o a with z | ⟨ob, xs, z⟩
    · rw [z] at h; cases h
    · rw [z] at h; cases h
  · exact .inl ⟨ob, h⟩
  · exact .inr h
end Dz
namespace Fz
open PySem PySem.Spec PyProof.Rows L2 Dz
theorem walk_ofZ {l : PySem.W.OpenLaw} {n k : Nat} {q : Program} {loose : List Str} {XP : (Str → Option Value) → Heap → Prop} {YP : World → Heap → Prop} {d : DefRec} {x : Str}
    (hn : l.most = some n) (hn2 : n ≤ sizeLine) (hdf : d.params.defaults = []) (hr : RoomG k callerA)
    (F : ∀ (w : World) (mg : Str → Option Value) (fa : Addr) (h : Heap), YP w h → h.Ns mainGlobals mg → mg d.name = some (.ref fa) →
      ∃ (K : PySem.W.Frag) (fd : FuncData) (sp : Sp), K.In h ∧ (∀ (s : Shared) (u : Value), BindsTo s fd ⟨[u], []⟩ [(x, u)]) ∧
        (∀ (H : Hp) (a : Addr) (ns : List Int), ns.length ≤ n → FzL K H a (ns.map V.int) → sp [.ref a] H (fun v _ => v = .bl true) fun _ _ _ => False) ∧
        ∀ base : Heap, K.In base → base.Ns mainGlobals mg → FnG l.prog w K mg base (L2.CX l.prog w) k fa fd [x] sp) :
    PySem.W.WalkO q loose XP YP l.row.toRowW d [] (fun f vs => PySem.call f vs) := by
  refine Att.attach_call hn hdf fun w s₀ s₁ mg mb fa o pm cd doc a vs ns G Y ho hd hcd hmg hobj hints hlen hg => ?_
  obtain ⟨K, fd, sp, KX, hb, hsp, hF⟩ := F w mg fa _ Y G.T.g hmg
  exact law_callG KX G.T.g G.T.b G.T.builtins G.T.nolimit hg hobj hints (Nat.le_trans hlen hn2) hr hF hb (fun H hO hS => hsp H a ns hlen (fz_of hO hS)) fun H e s' ⟨_, _, _, _, _, _, _, _, _, _, _, _, z⟩ => z
end Fz
/-! ### reasoning about the functions: no program in sight -/
namespace Dz
open PySem L2
structure Po where
  nx : Env → Store → Prop
  rt : D → Store → Prop
  bk : Env → Store → Prop := fun _ _ => False
  ct : Env → Store → Prop := fun _ _ => False
  ex : Str → List (Str × D) → Env → Store → Prop := fun _ _ _ _ => False
def SP (r : SRes) (P : Po) : Prop := match r with
  | .nx ρ S => P.nx ρ S
  | .rt d S => P.rt d S
  | .bk ρ S => P.bk ρ S
  | .ct ρ S => P.ct ρ S
  | .ex c fs ρ S => P.ex c fs ρ S
  | .bad => False
theorem Ok.mono {α : Type} {r : Res α} {Q Q' : α → Store → Prop} (h : Ok r Q) (q : ∀ a S, Q a S → Q' a S) : Ok r Q' := by
  cases r with
  | ok a S => exact q a S h
  | exc _ _ _ => exact h
  | bad => exact h
theorem SP.mono {r : SRes} {P P' : Po} (h : SP r P) (h1 : ∀ ρ S, P.nx ρ S → P'.nx ρ S) (h2 : ∀ d S, P.rt d S → P'.rt d S) (h3 : ∀ ρ S, P.bk ρ S → P'.bk ρ S := by exact fun _ _ z => z) (h4 : ∀ ρ S, P.ct ρ S → P'.ct ρ S := by exact fun _ _ z => z) (h5 : ∀ c fs ρ S, P.ex c fs ρ S → P'.ex c fs ρ S := by exact fun _ _ _ _ z => z) : SP r P' := by
  cases r with
  | nx ρ S => exact h1 ρ S h
  | rt d S => exact h2 d S h
  | bk ρ S => exact h3 ρ S h
  | ct ρ S => exact h4 ρ S h
  | ex c fs ρ S => exact h5 c fs ρ S h
  | bad => exact h
section
variable {α β : Type} {r : Res α} {k : α → Store → Res β} {Q : β → Store → Prop} {S : Store} {ρ : Env} {P : Po} {d e : D} {fa fb fc : Fe} {t u : Fs} {fr : Env → Store → Res (List D)} {tt uu : Env → Store → Res Bool}
theorem sp_seq : SP (sSeq t u ρ S) P = SP (t ρ S) { P with nx := fun ρ S => SP (u ρ S) P } := by
  unfold sSeq
  cases t ρ S <;> rfl
theorem sp_nx : SP (.nx ρ S) P = P.nx ρ S := by have h := @Eq.refl Prop; exact h _
theorem sp_rt : SP (.rt d S) P = P.rt d S := by have h := @Eq.refl Prop; exact h _
theorem sp_bk : SP (.bk ρ S) P = P.bk ρ S := by have h := @Eq.refl Prop; exact h _
theorem sp_ct : SP (.ct ρ S) P = P.ct ρ S := by have h := @Eq.refl Prop; exact h _
end
/-! ### stores that go on -/
section
variable {W : List Nat} {S S1 S2 : Store} {i l : Nat} {o u : MO}
theorem Gr.refl : Gr W S S := ⟨Nat.le_refl _, fun _ _ _ => rfl⟩
theorem Gr.at0 (g : Gr [] S S1) (h : S[i]? = some o) : S1[i]? = some o := g.at h (by simp)
theorem Gr.new : Gr W S (S ++ [o]) := ⟨by simp, fun i h _ => List.getElem?_append_left h⟩
/-- what was new ahead may change -/
theorem Gr.fresh (g : Gr W S S1) {W' : List Nat} (h : ∀ i ∈ W', i ∈ W ∨ S.length ≤ i) (k : Gr W' S1 S2) : Gr W S S2 := ⟨Nat.le_trans g.len k.len, fun i hi n => (k.keep i (Nat.lt_of_lt_of_le hi g.len) fun z => (h i z).elim n (by omega)).trans (g.keep i hi n)⟩
theorem at_new : (S ++ [o])[S.length]? = some o := by rw [List.getElem?_append_right (Nat.le_refl _), Nat.sub_self]; rfl
theorem lt_of (h : S[i]? = some o) : i < S.length := (List.getElem?_eq_some_iff.mp h).1
theorem set_at (h : S[i]? = some o) : (S.set i u)[i]? = some u := List.getElem?_set_self (lt_of h)
end
/-- I looks at the first n objects alone -/
def Loc (n : Nat) (I : Store → Prop) : Prop := ∀ S1 S2 : Store, (∀ i, i < n → S2[i]? = S1[i]?) → I S1 → I S2
theorem loc_true {n : Nat} : Loc n (fun _ => True) := fun _ _ _ _ => trivial
/-! ### comprehensions -/
theorem lcD_vals {W : List Nat} {I : Store → Prop} {S0 : Store} (hW : ∀ i ∈ W, i < S0.length) (hI : Loc S0.length I) {J : ItD} {xs : List D} {tg : Ft} {tt : Env → Store → Res Bool} {fe : Fe} {ρ : Env} {l : Nat} {p : D → Bool} {T : Nat → D → D → Prop} {Q : D → Store → Prop} (hl : S0.length ≤ l) (hx : xs.length ≤ 1000000)
    (hJ : ∀ S1, Gr W S0 S1 → ∀ i, itAt J S1 i = some xs[i]?)
    (turn : ∀ i d S1, xs[i]? = some d → Gr W S0 S1 → I S1 → Ok (tg d ρ S1) fun ρ1 S2 => Ok (tt ρ1 S2) fun b S3 => b = p d ∧ if p d = true then Ok (fe ρ1 S3) fun y S4 => T i d y ∧ Gr W S1 S4 ∧ I S4 else Gr W S1 S3 ∧ I S3)
    (fin : ∀ (ys : List (Nat × D)) S1, (ys.map (·.1)) = (List.range xs.length).filter (fun i => (xs[i]?.map p).getD false) → (∀ q ∈ ys, ∀ d, xs[q.1]? = some d → T q.1 d q.2) → Gr W S0 S1 → I S1 → S1[l]? = some (.lst (ys.map (·.2))) → Q (.obj l) S1) :
    ∀ (n i : Nat) (S : Store) (ys : List (Nat × D)), xs.length = i + n → ys.map (·.1) = (List.range i).filter (fun i => (xs[i]?.map p).getD false) → (∀ q ∈ ys, ∀ d, xs[q.1]? = some d → T q.1 d q.2) → Gr W S0 S → I S → S[l]? = some (.lst (ys.map (·.2))) → Ok (lcD J tg tt fe l ρ n i S) Q := by
  have nl : l ∉ W := fun z => by have := hW l z; omega
  intro n
  induction n with
  | zero =>
    intro i S ys hn hy hT g hS hL
    have e : xs[i]? = none := List.getElem?_eq_none (by omega)
    unfold lcD
    rw [hJ S g i, e]
    exact fin ys S (by rw [hy, hn, Nat.add_zero]) hT g hS hL
  | succ n ih =>
    intro i S ys hn hy hT g hS hL
    have hi : i < xs.length := by omega
    have e : xs[i]? = some xs[i] := List.getElem?_eq_getElem hi
    have hys : ys.length ≤ i := by
      have : (ys.map (·.1)).length ≤ i := by rw [hy]; exact Nat.le_trans (List.length_filter_le _ _) (by simp)
      simpa using this
    unfold lcD
    rw [hJ S g i, e]
    have h := turn i xs[i] S e g hS
    obtain ⟨ρ1, S1, e1, h3⟩ := h.get
    obtain ⟨b, S2, e2, hb, h4⟩ := h3.get
    simp only [e1, e2]
    subst hb
    cases hp : p xs[i] with
    | true =>
      rw [if_pos hp] at h4
      obtain ⟨y, S3, e3, h5, h6, h7⟩ := h4.get
      simp only [e3]
      have hL3 := h6.at hL nl
      have hl3 : (ys.map (·.2)).length < sizeLine := by rw [List.length_map]; have : sizeLine = 16777216 := sizeLine_eq; omega
      simp only [hL3]
      rw [if_pos hl3]
      have e4 : ys.map (·.2) ++ [y] = (ys ++ [(i, y)]).map (·.2) := by simp
      rw [e4]
      refine ih (i + 1) _ (ys ++ [(i, y)]) (by omega) ?_ ?_ ?_ ?_ ?_
      · rw [List.map_append, hy, List.range_succ, List.filter_append]
        simp [e, hp]
      · intro q hq d hd
        rcases List.mem_append.mp hq with hq | hq
        · exact hT q hq d hd
        · rw [List.mem_singleton] at hq
          subst hq
          rw [e] at hd
          cases hd
          exact h5
      · exact (g.trans h6).set (.inr hl)
      · refine hI _ _ (fun j hj => ?_) h7
        rw [List.getElem?_set_ne]
        omega
      · exact set_at hL3
    | false =>
      rw [if_neg (by rw [hp]; exact Bool.false_ne_true)] at h4
      refine ih (i + 1) _ ys (by omega) ?_ hT (g.trans h4.1) h4.2 (h4.1.at hL nl)
      rw [hy, List.range_succ, List.filter_append]
      simp [e, hp]
/-- [fe for tg in xs] -/
theorem ok_lc {W : List Nat} {I : Store → Prop} {S : Store} (hW : ∀ i ∈ W, i < S.length) (hI : Loc S.length I) {xs : List D} {it : Env → Store → Res ItD} {tg : Ft} {fe : Fe} {ρ : Env} {js : List Nat} {T : Nat → D → D → Prop} {Q : D → Store → Prop} (hx : xs.length ≤ 1000000) (i0 : I S)
    (hit : it ρ S = .ok (.vals xs) S)
    (turn : ∀ i d S1, xs[i]? = some d → Gr W S S1 → I S1 → Ok (tg d (wipeE ρ js) S1) fun ρ1 S2 => Ok (fe ρ1 S2) fun y S4 => T i d y ∧ Gr W S1 S4 ∧ I S4)
    (fin : ∀ (l : Nat) (ys : List D) S1, S.length ≤ l → ys.length = xs.length → (∀ i d y, xs[i]? = some d → ys[i]? = some y → T i d y) → Gr W S S1 → I S1 → S1[l]? = some (.lst ys) → Q (.obj l) S1) : Ok (fLc it tg ttYes fe js ρ S) Q := by
  unfold fLc
  rw [hit]
  simp only [Res.bind, itLen]
  have e0 : ∀ n : Nat, (List.range n).filter (fun i => (xs[i]?.map (fun _ => true)).getD false) = (List.range n).filter (fun i => decide (i < xs.length)) := fun n => by
    congr 1
    funext i
    by_cases h : i < xs.length
    · simp [h]
    · simp [h]
  refine lcD_vals (W := W) (I := I) (S0 := S) (J := .vals xs) (xs := xs) (p := fun _ => true) (T := T) hW hI (Nat.le_refl _) hx (fun _ _ _ => rfl) (fun i d S1 hd g hI1 => ?_) (fun ys S1 hy hT g hI1 hL => ?_) _ 0 _ [] (by simp) (by simp) (by simp) Gr.new ?_ at_new
  · refine (turn i d S1 hd g hI1).mono fun ρ1 S2 h => ?_
    exact ⟨rfl, by rw [if_pos rfl]; exact h⟩
  · rw [e0] at hy
    have hy2 : ys.map (·.1) = List.range xs.length := by
      rw [hy, List.filter_eq_self]
      intro i hi
      simpa using hi
    have hlen : ys.length = xs.length := by
      have := congrArg List.length hy2
      simpa using this
    refine fin S.length _ S1 (Nat.le_refl _) (by simpa using hlen) (fun i d y hd hyi => ?_) g hI1 hL
    rw [List.getElem?_map] at hyi
    cases hq : ys[i]? with
    | none => rw [hq] at hyi; cases hyi
    | some q =>
      rw [hq] at hyi
      cases hyi
      have h1 : (ys.map (·.1))[i]? = some q.1 := by rw [List.getElem?_map, hq]; rfl
      rw [hy2] at h1
      have hi : i < xs.length := (List.getElem?_eq_some_iff.mp hd).1
      rw [List.getElem?_range hi] at h1
      cases h1
      exact hT q (List.mem_of_getElem? hq) d hd
  · refine hI _ _ (fun j hj => ?_) i0
    exact List.getElem?_append_left hj
/-- [fe for tg in xs], each a value of its own -/
theorem ok_map {S : Store} {xs : List D} {it : Env → Store → Res ItD} {tg : Ft} {fe : Fe} {ρ : Env} {js : List Nat} {f : D → D} {Q : D → Store → Prop} (hx : xs.length ≤ 1000000) (hit : it ρ S = .ok (.vals xs) S)
    (turn : ∀ d S1, d ∈ xs → Gr [] S S1 → Ok (tg d (wipeE ρ js) S1) fun ρ1 S2 => Ok (fe ρ1 S2) fun y S4 => y = f d ∧ Gr [] S1 S4)
    (fin : ∀ (l : Nat) S1, S.length ≤ l → Gr [] S S1 → S1[l]? = some (.lst (xs.map f)) → Q (.obj l) S1) : Ok (fLc it tg ttYes fe js ρ S) Q := by
  refine ok_lc (W := []) (I := fun _ => True) (T := fun _ d y => y = f d) (by simp) loc_true hx trivial hit (fun i d S1 hd g _ => ?_) (fun l ys S1 hl hlen hT g _ hL => ?_)
  · exact (turn d S1 (List.mem_of_getElem? hd) g).mono fun ρ1 S2 h => h.mono fun y S4 h => ⟨h.1, h.2, trivial⟩
  · have e : ys = xs.map f := by
      apply List.ext_getElem?
      intro i
      rw [List.getElem?_map]
      cases hd : xs[i]? with
      | none => rw [List.getElem?_eq_none (by have := List.getElem?_eq_none_iff.mp hd; omega)]; rfl
      | some d =>
        have hi : i < ys.length := by have := (List.getElem?_eq_some_iff.mp hd).1; omega
        rw [List.getElem?_eq_getElem hi, hT i d ys[i] hd (List.getElem?_eq_getElem hi)]
        rfl
    subst e
    exact fin l S1 hl g hL
/-! ### loops -/
theorem forD_vals {J : ItD} {xs : List D} {tg : Ft} {body : Fs} {P : Po} (Inv : Nat → Env → Store → Prop) (hJ : ∀ i ρ S, Inv i ρ S → itAt J S i = some xs[i]?)
    (turn : ∀ i d ρ S, xs[i]? = some d → Inv i ρ S → Ok (tg d ρ S) fun ρ1 S1 => SP (body ρ1 S1) { P with nx := Inv (i + 1), ct := Inv (i + 1), bk := P.nx })
    (fin : ∀ ρ S, Inv xs.length ρ S → P.nx ρ S) : ∀ (n i : Nat) (ρ : Env) (S : Store), xs.length = i + n → Inv i ρ S → SP (forD J tg body n i ρ S) P := by
  intro n
  induction n with
  | zero =>
    intro i ρ S hn h
    have e : xs[i]? = none := List.getElem?_eq_none (by omega)
    unfold forD
    rw [hJ i ρ S h, e]
    have : i = xs.length := by omega
    subst this
    exact fin ρ S h
  | succ n ih =>
    intro i ρ S hn h
    have hi : i < xs.length := by omega
    have e : xs[i]? = some xs[i] := List.getElem?_eq_getElem hi
    unfold forD
    rw [hJ i ρ S h, e]
    obtain ⟨ρ1, S1, e1, h2⟩ := (turn i xs[i] ρ S e h).get
    simp only [e1]
    cases e2 : body ρ1 S1 with
    | nx ρ2 S2 => rw [e2] at h2; exact ih (i + 1) ρ2 S2 (by omega) h2
    | ct ρ2 S2 => rw [e2] at h2; exact ih (i + 1) ρ2 S2 (by omega) h2
    | bk ρ2 S2 => rw [e2] at h2; exact h2
    | rt d S2 => rw [e2] at h2; exact h2
    | ex c fs ρ2 S2 => rw [e2] at h2; exact h2
    | bad => rw [e2] at h2; exact h2
/-- for tg in xs: body -/
theorem sp_for {it : Env → Store → Res ItD} {xs : List D} {tg : Ft} {body : Fs} {P : Po} {ρ : Env} {S S0 : Store} (Inv : Nat → Env → Store → Prop) (hit : it ρ S = .ok (.vals xs) S0) (h0 : Inv 0 ρ S0)
    (turn : ∀ i d ρ S, xs[i]? = some d → Inv i ρ S → Ok (tg d ρ S) fun ρ1 S1 => SP (body ρ1 S1) { P with nx := Inv (i + 1), ct := Inv (i + 1), bk := P.nx })
    (fin : ∀ ρ S, Inv xs.length ρ S → P.nx ρ S) : SP (sFor it tg body ρ S) P := by
  unfold sFor
  rw [hit]
  exact forD_vals Inv (fun _ _ _ _ => rfl) turn fin _ 0 ρ S0 (by simp [itLen]) h0
/-- over a list that stays -/
theorem sp_forL {it : Env → Store → Res ItD} {l : Nat} {xs : List D} {tg : Ft} {body : Fs} {P : Po} {ρ : Env} {S S0 : Store} (Inv : Nat → Env → Store → Prop) (hit : it ρ S = .ok (.lst l) S0) (hl : ∀ i ρ S, Inv i ρ S → S[l]? = some (.lst xs)) (h0 : Inv 0 ρ S0)
    (turn : ∀ i d ρ S, xs[i]? = some d → Inv i ρ S → Ok (tg d ρ S) fun ρ1 S1 => SP (body ρ1 S1) { P with nx := Inv (i + 1), ct := Inv (i + 1), bk := P.nx })
    (fin : ∀ ρ S, Inv xs.length ρ S → P.nx ρ S) : SP (sFor it tg body ρ S) P := by
  unfold sFor
  rw [hit]
  refine forD_vals Inv (fun i ρ S h => ?_) turn fin _ 0 ρ S0 ?_ h0
  · simp only [itAt, hl i ρ S h]
  · simp only [itLen, hl 0 ρ S0 h0, Nat.zero_add]
end Dz
/-! ### step by step -/
namespace Dz
open PySem L2
section
variable {α β : Type} {r : Res α} {k : α → Store → Res β} {E : Str → List (Str × D) → Store → Prop} {S : Store} {ρ : Env} {P : Po} {d e : D} {fa fb fc : Fe} {t u : Fs} {fr : Env → Store → Res (List D)} {tt uu : Env → Store → Res Bool} {Q : α → Store → Prop} {QB : Bool → Store → Prop} {QD : D → Store → Prop} {QL : List D → Store → Prop}
theorem okx_bind {Q : β → Store → Prop} : OkX (r.bind k) Q E = OkX r (fun a S => OkX (k a S) Q E) E := by cases r <;> rfl
theorem okx_ok {a : α} : OkX (.ok a S) Q E = Q a S := by have h := @Eq.refl Prop; exact h _
theorem okx_exc {c : Str} {fs : List (Str × D)} : OkX (.exc c fs S : Res α) Q E = E c fs S := by have h := @Eq.refl Prop; exact h _
theorem okx_bad : OkX (.bad : Res α) Q E = False := by have h := @Eq.refl Prop; exact h _
theorem okx_if {c : Prop} [Decidable c] {x y : Res α} : OkX (if c then x else y) Q E = if c then OkX x Q E else OkX y Q E := by split <;> rfl
theorem ok_x : Ok r Q = OkX r Q (fun _ _ _ => False) := by cases r <;> rfl
theorem OkX.mono {Q' : α → Store → Prop} {E' : Str → List (Str × D) → Store → Prop} (h : OkX r Q' E') (q : ∀ a S, Q' a S → Q a S) (x : ∀ c fs S, E' c fs S → E c fs S) : OkX r Q E := by
  cases r with
  | ok a S => exact q a S h
  | exc _ _ _ => exact x _ _ _ h
  | bad => exact h
theorem sp_x {k : α → Store → SRes} : SP (r.then ρ k) P = OkX r (fun a S => SP (k a S) P) (fun c fs S => P.ex c fs ρ S) := by cases r <;> rfl
theorem okx_out {r : SRes} : OkX (outF r) QD E = SP r { nx := fun _ S => QD .non S, rt := QD, ex := fun c fs _ S => E c fs S } := by cases r <;> rfl
theorem sp_if {c : Prop} [Decidable c] {x y : SRes} : SP (if c then x else y) P = if c then SP x P else SP y P := by split <;> rfl
theorem sp_bad : SP .bad P = False := by have h := @Eq.refl Prop; exact h _
theorem sp_ex {c : Str} {fs : List (Str × D)} : SP (.ex c fs ρ S) P = P.ex c fs ρ S := by have h := @Eq.refl Prop; exact h _
/-! expressions -/
theorem x_var {i : Nat} : OkX (fVar i ρ S) QD E = match ρ[i]? with
    | some (some d) => QD d S
    | _ => False := by
  unfold fVar
  cases ρ[i]? with
  | none => rfl
  | some o => cases o <;> rfl
theorem x_c : OkX (fC d ρ S) QD E = QD d S := by have h := @Eq.refl Prop; exact h _
theorem x_op {g : D → D → Store → Res D} : OkX (fOp g fa fb ρ S) QD E = OkX (fa ρ S) (fun d S1 => OkX (fb ρ S1) (fun e S2 => OkX (g d e S2) QD E) E) E := by unfold fOp; simp only [okx_bind]
theorem x_un {g : D → Store → Res D} : OkX (fUn g fa ρ S) QD E = OkX (fa ρ S) (fun d S1 => OkX (g d S1) QD E) E := by unfold fUn; simp only [okx_bind]
theorem x_call {g : List D → Store → Res D} : OkX (fCall g fr ρ S) QD E = OkX (fr ρ S) (fun ds S1 => OkX (g ds S1) QD E) E := by unfold fCall; simp only [okx_bind]
theorem x_callN {n : Nat} {F : Fn} : OkX (fCallN n F fr ρ S) QD E = OkX (fr ρ S) (fun ds S1 => OkX (if ds.length = n then F ds S1 else .bad) QD E) E := by unfold fCallN; simp only [okx_bind]
theorem x_callD {n : Nat} {dd : List D} {F : Fn} : OkX (fCallD n dd F fr ρ S) QD E = OkX (fr ρ S) (fun ds S1 => OkX (if (ds ++ dd).length = n then F (ds ++ dd) S1 else .bad) QD E) E := by unfold fCallD; simp only [okx_bind]
theorem x_callK {n q N : Nat} {g : List D → List D → List D} {F : Fn} {fk : Env → Store → Res (List D)} : OkX (fCallK n q g N F fr fk ρ S) QD E = OkX (fr ρ S) (fun ds S1 => OkX (fk ρ S1) (fun es S2 => OkX (if ds.length = n ∧ es.length = q ∧ (g ds es).length = N then F (g ds es) S2 else .bad) QD E) E) E := by unfold fCallK; simp only [okx_bind]
theorem x_nil : OkX (aNil ρ S) QL E = QL [] S := by have h := @Eq.refl Prop; exact h _
theorem x_cons : OkX (aCons fa fr ρ S) QL E = OkX (fa ρ S) (fun d S1 => OkX (fr ρ S1) (fun ds S2 => QL (d :: ds) S2) E) E := by unfold aCons; simp only [okx_bind, okx_ok]
theorem x_tup : OkX (fTup fr ρ S) QD E = OkX (fr ρ S) (fun ds S1 => OkX (if ds.length ≤ sizeLine then .ok (.tup ds) S1 else .bad) QD E) E := by unfold fTup; simp only [okx_bind]
theorem x_lst : OkX (fLst fr ρ S) QD E = OkX (fr ρ S) (fun ds S1 => OkX (if ds.length ≤ sizeLine then .ok (.obj S1.length) (S1 ++ [.lst ds]) else .bad) QD E) E := by unfold fLst; simp only [okx_bind]
theorem x_not : OkX (fNot tt ρ S) QB E = OkX (tt ρ S) (fun b S1 => QB (!b) S1) E := by unfold fNot; simp only [okx_bind, okx_ok]
theorem x_and : OkX (fAnd tt uu ρ S) QB E = OkX (tt ρ S) (fun b S1 => if b = true then OkX (uu ρ S1) QB E else QB false S1) E := by unfold fAnd; simp only [okx_bind, okx_if, okx_ok]
theorem x_or : OkX (fOr tt uu ρ S) QB E = OkX (tt ρ S) (fun b S1 => if b = true then QB true S1 else OkX (uu ρ S1) QB E) E := by unfold fOr; simp only [okx_bind, okx_if, okx_ok]
theorem x_tst : OkX (tst fa ρ S) QB E = OkX (fa ρ S) (fun d S1 => match truth d S1 with
    | some b => QB b S1
    | none => False) E := by
  unfold tst
  rw [okx_bind]
  congr 1
  funext d S1
  cases truth d S1 with
  | none => rfl
  | some b => cases b <;> rfl
theorem x_andV : OkX (fAndV fa fb ρ S) QD E = OkX (fa ρ S) (fun d S1 => match truth d S1 with
    | some b => if b = true then OkX (fb ρ S1) QD E else QD d S1
    | none => False) E := by
  unfold fAndV
  rw [okx_bind]
  congr 1
  funext d S1
  cases truth d S1 with
  | none => rfl
  | some b => cases b <;> rfl
theorem x_orV : OkX (fOrV fa fb ρ S) QD E = OkX (fa ρ S) (fun d S1 => match truth d S1 with
    | some b => if b = true then QD d S1 else OkX (fb ρ S1) QD E
    | none => False) E := by
  unfold fOrV
  rw [okx_bind]
  congr 1
  funext d S1
  cases truth d S1 with
  | none => rfl
  | some b => cases b <;> rfl
theorem x_notV : OkX (fNotV fa ρ S) QD E = OkX (fa ρ S) (fun d S1 => match truth d S1 with
    | some b => QD (.bl (!b)) S1
    | none => False) E := by
  unfold fNotV
  rw [okx_bind]
  congr 1
  funext d S1
  cases truth d S1 with
  | none => rfl
  | some b => cases b <;> rfl
theorem x_ifE : OkX (fIf tt fa fb ρ S) QD E = OkX (tt ρ S) (fun b S1 => if b = true then OkX (fa ρ S1) QD E else OkX (fb ρ S1) QD E) E := by unfold fIf; simp only [okx_bind, okx_if]
theorem x_sl {pl ph : Env → Store → Res (Option Int)} : OkX (fSl fa pl ph ρ S) QD E = OkX (fa ρ S) (fun d S1 => OkX (pl ρ S1) (fun lo S2 => OkX (ph ρ S2) (fun hi S3 => OkX (slD d lo hi S3) QD E) E) E) E := by unfold fSl; simp only [okx_bind]
theorem x_pn {Q : Option Int → Store → Prop} : OkX (pNone ρ S) Q E = Q none S := by have h := @Eq.refl Prop; exact h _
theorem x_ps {Q : Option Int → Store → Prop} : OkX (pSome fa ρ S) Q E = OkX (fa ρ S) (fun d S1 => OkX (match d with
    | .int i => .ok (some i) S1
    | _ => .bad) Q E) E := by unfold pSome; rw [okx_bind] <;> rfl
theorem x_mt {T : String} {g : D → List D → Store → Res D} : OkX (fMt T g fa fr ρ S) QD E = OkX (fa ρ S) (fun d S1 => if tyO S1 T d = true then OkX (fr ρ S1) (fun ds S2 => OkX (g d ds S2) QD E) E else False) E := by
  unfold fMt
  rw [okx_bind]
  congr 1
  funext d S1
  rw [okx_if, okx_bind]
  rfl
theorem x_chain {g g' : D → D → Store → Res D} : OkX (fChain g g' fa fb fc ρ S) QD E = OkX (fa ρ S) (fun d S1 => OkX (fb ρ S1) (fun e S2 => OkX (g d e S2) (fun z S3 => match z with
    | .bl true => OkX (fc ρ S3) (fun f S4 => OkX (g' e f S4) QD E) E
    | .bl false => QD (.bl false) S3
    | _ => False) E) E) E := by
  unfold fChain
  simp only [okx_bind]
  congr 1
  funext d S1
  congr 1
  funext e S2
  congr 1
  funext z S3
  split
  · rw [okx_bind]
  · rfl
  · rename_i h1 h2
    cases z with
    | bl b => cases b with
      | true => exact (h1 rfl).elim
      | false => exact (h2 rfl).elim
    | _ => rfl
theorem x_dnew : OkX (fDnew ρ S) QD E = QD (.obj S.length) (S ++ [.dict []]) := by have h := @Eq.refl Prop; exact h _
/-! statements -/
theorem s_expr_x : SP (sExpr fa ρ S) P = OkX (fa ρ S) (fun _ S1 => P.nx ρ S1) (fun c fs S => P.ex c fs ρ S) := by unfold sExpr; rw [sp_x]; rfl
theorem s_ret_x : SP (sRet fa ρ S) P = OkX (fa ρ S) (fun d S1 => P.rt d S1) (fun c fs S => P.ex c fs ρ S) := by unfold sRet; rw [sp_x]; rfl
theorem s_retN_x : SP (sRetN ρ S) P = P.rt .non S := by have h := @Eq.refl Prop; exact h _
theorem s_next_x : SP (sNext ρ S) P = P.nx ρ S := by have h := @Eq.refl Prop; exact h _
theorem s_break_x : SP (sBreak ρ S) P = P.bk ρ S := by have h := @Eq.refl Prop; exact h _
theorem s_cont_x : SP (sCont ρ S) P = P.ct ρ S := by have h := @Eq.refl Prop; exact h _
theorem s_if_x : SP (sIf tt t u ρ S) P = OkX (tt ρ S) (fun b S1 => if b = true then SP (t ρ S1) P else SP (u ρ S1) P) (fun c fs S => P.ex c fs ρ S) := by unfold sIf; rw [sp_x]; congr 1; funext b S1; exact sp_if
theorem s_asg_x {i : Nat} : SP (sAsg fa (tgName i) ρ S) P = OkX (fa ρ S) (fun d S1 => P.nx (ρ.set i (some d)) S1) (fun c fs S => P.ex c fs ρ S) := by unfold sAsg; rw [sp_x]; rfl
theorem s_asgT_x {n : Nat} {tg : Fts} : SP (sAsg fa (tgTup n tg) ρ S) P = OkX (fa ρ S) (fun d S1 => OkX (tgTup n tg d ρ S1) (fun ρ' S' => P.nx ρ' S') (fun _ _ _ => False)) (fun c fs S => P.ex c fs ρ S) := by
  unfold sAsg
  rw [sp_x]
  congr 1
  funext d S1
  cases tgTup n tg d ρ S1 <;> rfl
theorem s_par_x {i j : Nat} : SP (sPar i j fr ρ S) P = OkX (fr ρ S) (fun ds S1 => SP (match ds with
    | [d, e] => .nx ((ρ.set i (some d)).set j (some e)) S1
    | _ => .bad) P) (fun c fs S => P.ex c fs ρ S) := by unfold sPar; rw [sp_x] <;> rfl
theorem s_par3_x {i j l : Nat} : SP (sPar3 i j l fr ρ S) P = OkX (fr ρ S) (fun ds S1 => SP (match ds with
    | [d, e, f] => .nx (((ρ.set i (some d)).set j (some e)).set l (some f)) S1
    | _ => .bad) P) (fun c fs S => P.ex c fs ρ S) := by unfold sPar3; rw [sp_x] <;> rfl
theorem s_setix_x {fo fi fv : Fe} : SP (sSetIx fo fi fv ρ S) P = OkX (fv ρ S) (fun v S1 => OkX (fo ρ S1) (fun o S2 => OkX (fi ρ S2) (fun i S3 => match setIx o i v S3 with
    | some S4 => P.nx ρ S4
    | none => False) (fun c fs S => P.ex c fs ρ S)) (fun c fs S => P.ex c fs ρ S)) (fun c fs S => P.ex c fs ρ S) := by
  unfold sSetIx
  simp only [sp_x]
  congr 1
  funext v S1
  congr 1
  funext o S2
  congr 1
  funext i S3
  cases setIx o i v S3 <;> rfl
theorem s_raise_x {c f : Str} : SP (sRaise c f fa ρ S) P = OkX (fa ρ S) (fun d S1 => P.ex c [(f, d)] ρ S1) (fun c fs S => P.ex c fs ρ S) := by unfold sRaise; rw [sp_x]; rfl
theorem tg_name {i : Nat} {Q : Env → Store → Prop} : OkX (tgName i d ρ S) Q E = Q (ρ.set i (some d)) S := by have h := @Eq.refl Prop; exact h _
theorem tg_nil {Q : Env → Store → Prop} : OkX (tgNil [] ρ S) Q E = Q ρ S := by have h := @Eq.refl Prop; exact h _
theorem tg_cons {tg : Ft} {ts : Fts} {ds : List D} {Q : Env → Store → Prop} : OkX (tgCons tg ts (d :: ds) ρ S) Q E = OkX (tg d ρ S) (fun ρ1 S1 => OkX (ts ds ρ1 S1) Q E) E := by unfold tgCons; simp only [okx_bind]
theorem tg_tup {n : Nat} {ts : Fts} {ds : List D} {Q : Env → Store → Prop} : OkX (tgTup n ts (.tup ds) ρ S) Q E = if ds.length = n then OkX (ts ds ρ S) Q E else False := by
  unfold tgTup
  simp only
  rw [okx_if]
  rfl
/-! values -/
theorem v_addI {i j : Int} : OkX (gAdd (.int i) (.int j) S) QD E = QD (.int (i + j)) S := by have h := @Eq.refl Prop; exact h _
theorem v_addS {a b : Str} : OkX (gAdd (.str a) (.str b) S) QD E = if a.length + b.length ≤ sizeLine then QD (.str (a ++ b)) S else False := by unfold gAdd; simp only; rw [okx_if]; rfl
theorem v_sub {i j : Int} : OkX (gSub (.int i) (.int j) S) QD E = QD (.int (i - j)) S := by have h := @Eq.refl Prop; exact h _
theorem v_mul {i j : Int} : OkX (gMul (.int i) (.int j) S) QD E = if cMul i j = true then QD (.int (i * j)) S else False := by unfold gMul; simp only; rw [okx_if]; rfl
theorem v_mod {i j : Int} : OkX (gMod (.int i) (.int j) S) QD E = if decide (j ≠ 0) = true then QD (.int (i.fmod j)) S else False := by unfold gMod gI; simp only; rw [okx_if]; rfl
theorem v_fdiv {i j : Int} : OkX (gFdiv (.int i) (.int j) S) QD E = if decide (j ≠ 0 ∧ j.natAbs < 10 ^ 70) = true then QD (.int (i.fdiv j)) S else False := by unfold gFdiv gI; simp only; rw [okx_if]; rfl
theorem v_pow {i j : Int} : OkX (gPow (.int i) (.int j) S) QD E = if decide (0 ≤ j ∧ j ≤ 1000000 ∧ i.natAbs < 2 ^ 64) = true then QD (.int (i ^ j.toNat)) S else False := by unfold gPow gI; simp only; rw [okx_if]; rfl
theorem v_neg {i : Int} : OkX (gNeg (.int i) S) QD E = QD (.int (-i)) S := by have h := @Eq.refl Prop; exact h _
theorem v_ltI {i j : Int} : OkX (gLt (.int i) (.int j) S) QD E = QD (.bl (decide (i < j))) S := by have h := @Eq.refl Prop; exact h _
theorem v_leI {i j : Int} : OkX (gLe (.int i) (.int j) S) QD E = QD (.bl (decide (i ≤ j))) S := by have h := @Eq.refl Prop; exact h _
theorem v_gtI {i j : Int} : OkX (gGt (.int i) (.int j) S) QD E = QD (.bl (decide (j < i))) S := by have h := @Eq.refl Prop; exact h _
theorem v_geI {i j : Int} : OkX (gGe (.int i) (.int j) S) QD E = QD (.bl (decide (j ≤ i))) S := by have h := @Eq.refl Prop; exact h _
theorem v_isN : OkX (gIs false d .non S) QD E = QD (.bl (isNon d)) S := by unfold gIs; simp only [Bool.bne_false]; rfl
theorem v_isnN : OkX (gIs true d .non S) QD E = QD (.bl (!isNon d)) S := by unfold gIs; simp only [Bool.bne_true]; rfl
theorem v_isB {a b : Bool} : OkX (gIs false (.bl a) (.bl b) S) QD E = QD (.bl (decide (a = b))) S := by unfold gIs; simp only [Bool.bne_false]; rfl
theorem v_isnB {a b : Bool} : OkX (gIs true (.bl a) (.bl b) S) QD E = QD (.bl (!decide (a = b))) S := by unfold gIs; simp only [Bool.bne_true]; rfl
theorem eq_scal {n b : Bool} (h : sclD d e = some b) : OkX (gEqv n d e S) QD E = QD (.bl (b != n)) S := by
  unfold gEqv
  rw [h]
  rfl
theorem v_eqI {i j : Int} : OkX (gEq (.int i) (.int j) S) QD E = QD (.bl (decide (i = j))) S := by
  have e : sclD (.int i) (.int j) = some (decide (i = j)) := by show some (decide (V.int i = V.int j)) = _; congr 1; exact decide_eq_decide.mpr (by simp)
  show OkX (gEqv false _ _ _) _ _ = _
  rw [eq_scal e, Bool.bne_false]
theorem v_neI {i j : Int} : OkX (gNe (.int i) (.int j) S) QD E = QD (.bl (!decide (i = j))) S := by
  have e : sclD (.int i) (.int j) = some (decide (i = j)) := by show some (decide (V.int i = V.int j)) = _; congr 1; exact decide_eq_decide.mpr (by simp)
  show OkX (gEqv true _ _ _) _ _ = _
  rw [eq_scal e, Bool.bne_true]
theorem v_eqS {i j : Str} : OkX (gEq (.str i) (.str j) S) QD E = QD (.bl (decide (i = j))) S := by
  have e : sclD (.str i) (.str j) = some (decide (i = j)) := by show some (decide (V.str i = V.str j)) = _; congr 1; exact decide_eq_decide.mpr (by simp)
  show OkX (gEqv false _ _ _) _ _ = _
  rw [eq_scal e, Bool.bne_false]
theorem v_neS {i j : Str} : OkX (gNe (.str i) (.str j) S) QD E = QD (.bl (!decide (i = j))) S := by
  have e : sclD (.str i) (.str j) = some (decide (i = j)) := by show some (decide (V.str i = V.str j)) = _; congr 1; exact decide_eq_decide.mpr (by simp)
  show OkX (gEqv true _ _ _) _ _ = _
  rw [eq_scal e, Bool.bne_true]
/-- lists -/
theorem eq_lst {n : Bool} {l k : Nat} {xs ys : List D} {ps qs : List PyData} (e1 : S[l]? = some (.lst xs)) (e2 : S[k]? = some (.lst ys)) (h1 : pysD xs = some ps) (h2 : pysD ys = some qs) (s1 : SeqAt.shaped (.list ps) = true) (s2 : SeqAt.shaped (.list qs) = true) : OkX (gEqv n (.obj l) (.obj k) S) QD E = QD (.bl (PyData.eqvAll ps qs != n)) S := by
  unfold gEqv sclD pyO
  simp only [fltD, e1, e2, h1, h2, Option.map]
  rw [if_pos (.inl ⟨s1, s2⟩)]
  rfl
theorem t_bl {b : Bool} : truth (.bl b) S = some b := by have h := @Eq.refl (Option Bool); exact h _
theorem t_int {i : Int} : truth (.int i) S = some (i != 0) := by have h := @Eq.refl (Option Bool); exact h _
theorem t_nonx : truth .non S = some false := by have h := @Eq.refl (Option Bool); exact h _
theorem t_tup {xs : List D} : truth (.tup xs) S = some (!xs.isEmpty) := by have h := @Eq.refl (Option Bool); exact h _
theorem v_isi {t : String} : OkX (gIsi [d, .ty t] S) QD E = match tyD S d with
    | some u => if t ∈ tyAsked then QD (.bl (isTy u t)) S else False
    | none => False := by
  unfold gIsi
  simp only
  cases tyD S d with
  | none => rfl
  | some u => exact okx_if
theorem v_max {i j : Int} : OkX (gMax [.int i, .int j] S) QD E = QD (.int (if j > i then j else i)) S := by have h := @Eq.refl Prop; exact h _
theorem v_min {i j : Int} : OkX (gMin [.int i, .int j] S) QD E = QD (.int (if j < i then j else i)) S := by have h := @Eq.refl Prop; exact h _
theorem v_ixT {xs : List D} {i : Int} : OkX (gIx (.tup xs) (.int i) S) QD E = match atI xs i with
    | some v => QD v S
    | none => False := by
  unfold gIx kvsD ixD itemsD
  simp only
  cases atI xs i <;> rfl
theorem v_ixF {xs : List D} {i : Int} : OkX (gIx (.flst xs) (.int i) S) QD E = match atI xs i with
    | some v => QD v S
    | none => False := by
  unfold gIx kvsD ixD itemsD
  simp only
  cases atI xs i <;> rfl
theorem v_ixL {l : Nat} {xs : List D} {i : Int} (h : S[l]? = some (.lst xs)) : OkX (gIx (.obj l) (.int i) S) QD E = match atI xs i with
    | some v => QD v S
    | none => False := by
  unfold gIx kvsD ixD itemsD
  simp only [h]
  cases atI xs i <;> rfl
theorem v_lenT {xs : List D} : OkX (gLen [.tup xs] S) QD E = QD (.int xs.length) S := by have h := @Eq.refl Prop; exact h _
theorem v_lenF {xs : List D} : OkX (gLen [.flst xs] S) QD E = QD (.int xs.length) S := by have h := @Eq.refl Prop; exact h _
theorem v_tupleL {l : Nat} {xs : List D} (h : S[l]? = some (.lst xs)) : OkX (gTuple [.obj l] S) QD E = QD (.tup xs) S := by
  unfold gTuple listD
  simp only [h]
  rfl
theorem v_app {l : Nat} {xs : List D} (h : S[l]? = some (.lst xs)) : OkX (gApp (.obj l) [d] S) QD E = if xs.length < sizeLine then QD .non (S.set l (.lst (xs ++ [d]))) else False := by
  unfold gApp
  simp only [h]
  rw [okx_if]
  rfl
theorem v_allL {l : Nat} {bs : List Bool} (h : S[l]? = some (.lst (bs.map D.bl))) : OkX (gAll true [.obj l] S) QD E = QD (.bl (bs.all id)) S := by
  have hb : ∀ bs : List Bool, boolsD (bs.map D.bl) = some bs := by
    intro bs
    induction bs with
    | nil => rfl
    | cons b r ih => rw [List.map_cons, boolsD, ih]; rfl
  unfold gAll listD
  simp only [h, Option.bind, hb]
  rfl
theorem ty_NoneType_int : isTy "NoneType" "int" = false := by decide
theorem ty_NoneType_str : isTy "NoneType" "str" = false := by decide
theorem ty_NoneType_bool : isTy "NoneType" "bool" = false := by decide
theorem ty_NoneType_tuple : isTy "NoneType" "tuple" = false := by decide
theorem ty_NoneType_list : isTy "NoneType" "list" = false := by decide
theorem ty_NoneType_dict : isTy "NoneType" "dict" = false := by decide
theorem ty_bool_int : isTy "bool" "int" = true := by decide
theorem ty_bool_str : isTy "bool" "str" = false := by decide
theorem ty_bool_bool : isTy "bool" "bool" = true := by decide
theorem ty_bool_tuple : isTy "bool" "tuple" = false := by decide
theorem ty_bool_list : isTy "bool" "list" = false := by decide
theorem ty_bool_dict : isTy "bool" "dict" = false := by decide
theorem ty_int_int : isTy "int" "int" = true := by decide
theorem ty_int_str : isTy "int" "str" = false := by decide
theorem ty_int_bool : isTy "int" "bool" = false := by decide
theorem ty_int_tuple : isTy "int" "tuple" = false := by decide
theorem ty_int_list : isTy "int" "list" = false := by decide
theorem ty_int_dict : isTy "int" "dict" = false := by decide
theorem ty_str_int : isTy "str" "int" = false := by decide
theorem ty_str_str : isTy "str" "str" = true := by decide
theorem ty_str_bool : isTy "str" "bool" = false := by decide
theorem ty_str_tuple : isTy "str" "tuple" = false := by decide
theorem ty_str_list : isTy "str" "list" = false := by decide
theorem ty_str_dict : isTy "str" "dict" = false := by decide
theorem ty_tuple_int : isTy "tuple" "int" = false := by decide
theorem ty_tuple_str : isTy "tuple" "str" = false := by decide
theorem ty_tuple_bool : isTy "tuple" "bool" = false := by decide
theorem ty_tuple_tuple : isTy "tuple" "tuple" = true := by decide
theorem ty_tuple_list : isTy "tuple" "list" = false := by decide
theorem ty_tuple_dict : isTy "tuple" "dict" = false := by decide
theorem ty_list_int : isTy "list" "int" = false := by decide
theorem ty_list_str : isTy "list" "str" = false := by decide
theorem ty_list_bool : isTy "list" "bool" = false := by decide
theorem ty_list_tuple : isTy "list" "tuple" = false := by decide
theorem ty_list_list : isTy "list" "list" = true := by decide
theorem ty_list_dict : isTy "list" "dict" = false := by decide
theorem ty_dict_int : isTy "dict" "int" = false := by decide
theorem ty_dict_str : isTy "dict" "str" = false := by decide
theorem ty_dict_bool : isTy "dict" "bool" = false := by decide
theorem ty_dict_tuple : isTy "dict" "tuple" = false := by decide
theorem ty_dict_list : isTy "dict" "list" = false := by decide
theorem ty_dict_dict : isTy "dict" "dict" = true := by decide
theorem tya_int : ("int" ∈ tyAsked) = True := by decide
theorem tya_str : ("str" ∈ tyAsked) = True := by decide
theorem tya_bool : ("bool" ∈ tyAsked) = True := by decide
theorem tya_tuple : ("tuple" ∈ tyAsked) = True := by decide
theorem tya_list : ("list" ∈ tyAsked) = True := by decide
theorem tya_dict : ("dict" ∈ tyAsked) = True := by decide
theorem ty_i {i : Int} : tyD S (.int i) = some "int" := rfl
theorem ty_b {i : Bool} : tyD S (.bl i) = some "bool" := rfl
theorem ty_s {i : Str} : tyD S (.str i) = some "str" := rfl
theorem ty_n : tyD S .non = some "NoneType" := rfl
theorem ty_t {xs : List D} : tyD S (.tup xs) = some "tuple" := rfl
theorem ty_f {xs : List D} : tyD S (.flst xs) = some "list" := rfl
theorem ty_l {l : Nat} {xs : List D} (h : S[l]? = some (.lst xs)) : tyD S (.obj l) = some "list" := by simp [tyD, h]
theorem ty_d {l : Nat} {xs : List (Key × D)} (h : S[l]? = some (.dict xs)) : tyD S (.obj l) = some "dict" := by simp [tyD, h]
theorem sp_forX {tg : Ft} {body : Fs} (h : OkX (fa ρ S) (fun v S1 => SP (sFor (iSeq (fC v)) tg body ρ S1) P) (fun c fs S => P.ex c fs ρ S)) : SP (sFor (iSeq fa) tg body ρ S) P := by
  unfold sFor iSeq at *
  cases e : fa ρ S with
  | ok v S1 => rw [e] at h; exact h
  | exc c fs S1 => rw [e] at h; exact h
  | bad => rw [e] at h; exact h
theorem sp_rng1 {tg : Ft} {body : Fs} : SP (sFor (jRng1 fr) tg body ρ S) P = OkX (fr ρ S) (fun ds S1 => match ds with
    | [.int j] => if -(2 ^ 62) ≤ j ∧ j < 2 ^ 62 then SP (forD (.vals (rngD 0 j.toNat)) tg body (rngD 0 j.toNat).length 0 ρ S1) P else False
    | _ => False) (fun c fs S => P.ex c fs ρ S) := by
  unfold sFor jRng1
  rw [sp_x, okx_bind]
  congr 1
  funext ds S1
  match ds with
  | [] => rfl
  | [.int j] => exact okx_if
  | [.non] => rfl
  | [.bl _] => rfl
  | [.str _] => rfl
  | [.tup _] => rfl
  | [.flst _] => rfl
  | [.obj _] => rfl
  | [.glob _] => rfl
  | [.ty _] => rfl
  | [.exc] => rfl
  | a :: b :: r => cases a <;> rfl
theorem rng_get {lo : Int} {n i : Nat} {d : D} (h : (rngD lo n)[i]? = some d) : d = .int (lo + i) ∧ i < n := by
  unfold rngD at h
  rw [List.getElem?_map, Option.map_eq_some_iff] at h
  obtain ⟨k, hk, rfl⟩ := h
  have := (List.getElem?_eq_some_iff.mp hk)
  obtain ⟨h1, h2⟩ := this
  simp at h2 h1
  subst h2
  exact ⟨rfl, h1⟩
theorem rng_len {lo : Int} {n : Nat} : (rngD lo n).length = n := by simp [rngD]
/-- a list or tuple walked, which stays -/
theorem sp_forI {W : List Nat} {v : D} {xs : List D} {tg : Ft} {body : Fs} (Inv : Nat → Env → Store → Prop) (hv : fa ρ S = .ok v S) (hx : itemsD S v = some xs) (hW : ∀ l ∈ W, v ≠ .obj l) (keep : ∀ i ρ S1, Inv i ρ S1 → Gr W S S1) (h0 : Inv 0 ρ S)
    (turn : ∀ i d ρ S, xs[i]? = some d → Inv i ρ S → Ok (tg d ρ S) fun ρ1 S1 => SP (body ρ1 S1) { P with nx := Inv (i + 1), ct := Inv (i + 1), bk := P.nx })
    (fin : ∀ ρ S, Inv xs.length ρ S → P.nx ρ S) : SP (sFor (iSeq fa) tg body ρ S) P := by
  unfold itemsD at hx
  split at hx
  · cases hx
    exact sp_for Inv (by unfold iSeq; rw [hv]; rfl) h0 turn fin
  · cases hx
    exact sp_for Inv (by unfold iSeq; rw [hv]; rfl) h0 turn fin
  · split at hx
    · rename_i l zs h
      cases hx
      exact sp_forL Inv (by unfold iSeq; rw [hv]; simp only [Res.bind, h]) (fun i ρ S1 hi => (keep i ρ S1 hi).at h fun z => hW _ z rfl) h0 turn fin
    · cases hx
  · cases hx
theorem items_tup {xs : List D} : itemsD S (.tup xs) = some xs := rfl
theorem items_lst {l : Nat} {xs : List D} (h : S[l]? = some (.lst xs)) : itemsD S (.obj l) = some xs := by unfold itemsD; simp only [h]
end
end Dz
namespace Dz
open PySem PySem.Spec PyProof.Rows L2 Fz
theorem ok_lcJ {W : List Nat} {I : Store → Prop} {S : Store} (hW : ∀ i ∈ W, i < S.length) (hI : Loc S.length I) {xs : List D} {it : Env → Store → Res ItD} {tg : Ft} {fe : Fe} {ρ : Env} {js : List Nat} {T : Nat → D → D → Prop} {Q : D → Store → Prop} (hx : xs.length ≤ 1000000) (i0 : I S)
    {J : ItD} (hit : it ρ S = .ok J S) (hlen : itLen J S = xs.length) (hJ : ∀ S1, Gr W S S1 → ∀ i, itAt J S1 i = some xs[i]?)
    (turn : ∀ i d S1, xs[i]? = some d → Gr W S S1 → I S1 → Ok (tg d (wipeE ρ js) S1) fun ρ1 S2 => Ok (fe ρ1 S2) fun y S4 => T i d y ∧ Gr W S1 S4 ∧ I S4)
    (fin : ∀ (l : Nat) (ys : List D) S1, S.length ≤ l → ys.length = xs.length → (∀ i d y, xs[i]? = some d → ys[i]? = some y → T i d y) → Gr W S S1 → I S1 → S1[l]? = some (.lst ys) → Q (.obj l) S1) : Ok (fLc it tg ttYes fe js ρ S) Q := by
  unfold fLc
  rw [hit]
  simp only [Res.bind, hlen]
  have e0 : ∀ n : Nat, (List.range n).filter (fun i => (xs[i]?.map (fun _ => true)).getD false) = (List.range n).filter (fun i => decide (i < xs.length)) := fun n => by
    congr 1
    funext i
    by_cases h : i < xs.length
    · simp [h]
    · simp [h]
  refine lcD_vals (W := W) (I := I) (S0 := S) (J := J) (xs := xs) (p := fun _ => true) (T := T) hW hI (Nat.le_refl _) hx hJ (fun i d S1 hd g hI1 => ?_) (fun ys S1 hy hT g hI1 hL => ?_) _ 0 _ [] (by simp) (by simp) (by simp) Gr.new ?_ at_new
  · refine (turn i d S1 hd g hI1).mono fun ρ1 S2 h => ?_
    exact ⟨rfl, by rw [if_pos rfl]; exact h⟩
  · rw [e0] at hy
    have hy2 : ys.map (·.1) = List.range xs.length := by
      rw [hy, List.filter_eq_self]
      intro i hi
      simpa using hi
    have hlen : ys.length = xs.length := by
      have := congrArg List.length hy2
      simpa using this
    refine fin S.length _ S1 (Nat.le_refl _) (by simpa using hlen) (fun i d y hd hyi => ?_) g hI1 hL
    rw [List.getElem?_map] at hyi
    cases hq : ys[i]? with
    | none => rw [hq] at hyi; cases hyi
    | some q =>
      rw [hq] at hyi
      cases hyi
      have h1 : (ys.map (·.1))[i]? = some q.1 := by rw [List.getElem?_map, hq]; rfl
      rw [hy2] at h1
      have hi : i < xs.length := (List.getElem?_eq_some_iff.mp hd).1
      rw [List.getElem?_range hi] at h1
      cases h1
      exact hT q (List.mem_of_getElem? hq) d hd
  · refine hI _ _ (fun j hj => ?_) i0
    exact List.getElem?_append_left hj
theorem ok_mapL {S : Store} {xs : List D} {it : Env → Store → Res ItD} {tg : Ft} {fe : Fe} {ρ : Env} {js : List Nat} {f : D → D} {Q : D → Store → Prop} (hx : xs.length ≤ 1000000) {q : Nat} (hit : it ρ S = .ok (.lst q) S) (hq : S[q]? = some (.lst xs))
    (turn : ∀ d S1, d ∈ xs → Gr [] S S1 → Ok (tg d (wipeE ρ js) S1) fun ρ1 S2 => Ok (fe ρ1 S2) fun y S4 => y = f d ∧ Gr [] S1 S4)
    (fin : ∀ (l : Nat) S1, S.length ≤ l → Gr [] S S1 → S1[l]? = some (.lst (xs.map f)) → Q (.obj l) S1) : Ok (fLc it tg ttYes fe js ρ S) Q := by
  refine ok_lcJ (W := []) (I := fun _ => True) (T := fun _ d y => y = f d) (by simp) loc_true hx trivial hit (by simp only [itLen, hq]) (fun S1 g i => by simp only [itAt, g.at0 hq]) (fun i d S1 hd g _ => ?_) (fun l ys S1 hl hlen hT g _ hL => ?_)
  · exact (turn d S1 (List.mem_of_getElem? hd) g).mono fun ρ1 S2 h => h.mono fun y S4 h => ⟨h.1, h.2, trivial⟩
  · have e : ys = xs.map f := by
      apply List.ext_getElem?
      intro i
      rw [List.getElem?_map]
      cases hd : xs[i]? with
      | none => rw [List.getElem?_eq_none (by have := List.getElem?_eq_none_iff.mp hd; omega)]; rfl
      | some d =>
        have hi : i < ys.length := by have := (List.getElem?_eq_some_iff.mp hd).1; omega
        rw [List.getElem?_eq_getElem hi, hT i d ys[i] hd (List.getElem?_eq_getElem hi)]
        rfl
    subst e
    exact fin l S1 hl g hL
end Dz
/-! ### dict(pairs), dict(d) -/
/-! ### displays of dicts, int(x) -/
namespace Dz
open PySem PySem.Spec PyProof.Rows L2 Fz
section
variable {X : Cx} {K : PySem.W.Frag} {G : Gd} {W : WX} {m : List Addr} {S : Store} {H : Hp} {σ : L2.St} {a b : Expr} {fa fb : Fe} {pos : Pos}
def fPairs : List (Fe × Fe) → Env → Store → Res (List (Key × D))
  | [], _, S => .ok [] S
  | (fk, fv) :: r, ρ, S => (fk ρ S).bind fun k S1 => (fv ρ S1).bind fun v S2 => (fPairs r ρ S2).bind fun ps S3 => match keyD k with
    | some k => .ok ((k, v) :: ps) S3
    | none => .bad
def fDisp (fs : List (Fe × Fe)) : Fe := fun ρ S => (fPairs fs ρ (S ++ [.dict []])).bind fun kvs S1 => match S1[S.length]? with
  | some (.dict []) => if kvs.length ≤ 15 then .ok (.obj S.length) (S1.set S.length (.dict (mergeD [] kvs))) else .bad
  | _ => .bad
/-- int(x) -/
def gInt (ds : List D) (S : Store) : Res D := match ds with
  | [.int i] => .ok (.int i) S
  | [.bl b] => .ok (.int (if b then 1 else 0)) S
  | _ => .bad
/-- x[::-1], of lists; x[lo:hi:-1], of tuples -/
def fRevL (fa : Fe) : Fe := fun ρ S => (fa ρ S).bind fun d S1 => match d with
  | .obj i => (match S1[i]? with
    | some (.lst xs) => .ok (.obj S1.length) (S1 ++ [.lst xs.reverse])
    | _ => .bad)
  | .flst xs => .ok (.obj S1.length) (S1 ++ [.lst xs.reverse])
  | _ => .bad
def fNegT (fa : Fe) (pl ph : Env → Store → Res (Option Int)) : Fe := fun ρ S => (fa ρ S).bind fun d S1 => (pl ρ S1).bind fun lo S2 => (ph ρ S2).bind fun hi S3 => match d with
  | .tup xs => if (negPick xs lo hi).length ≤ sizeLine then .ok (.tup (negPick xs lo hi)) S3 else .bad
  | _ => .bad
theorem RVs.pickF {xs : List D} {vs : List V} (f : Nat → Nat) (r : RVs K m H xs vs) : ∀ l : List Nat, RVs K m H (l.filterMap fun j => xs[f j]?) (l.filterMap fun j => vs[f j]?)
  | [] => .nil
  | j :: l => by
    rw [List.filterMap_cons, List.filterMap_cons]
    cases h : xs[f j]? with
    | none =>
      have h2 : vs[f j]? = none := by rw [List.getElem?_eq_none_iff] at h ⊢; rw [← r.len]; exact h
      rw [h2]
      exact RVs.pickF f r l
    | some d =>
      obtain ⟨v, h2, h3⟩ := r.get h
      rw [h2]
      exact .cons h3 (RVs.pickF f r l)
theorem RVs.negP {xs : List D} {vs : List V} (r : RVs K m H xs vs) (lo hi : Option Int) : RVs K m H (negPick xs lo hi) (negPick vs lo hi) := by
  unfold negPick
  rw [r.len]
  exact RVs.pickF _ r _
theorem d_revL (e : X.K = K) {k : Nat} {p1 p2 p3 : Pos} (ha : PE X a (LE K G W fa)) : PE X (.Subscript a (.Slice none none (some (.UnaryOp .USub (.Constant (.int 1) k p1) p2)) p3) pos) (LE K G W (fRevL fa)) := PE.le (k_revL e ha) fun σ H Q h =>
  (LX.step (R := RV K) h).mono fun x H1 ⟨m1, ρ, S1, d, p, rx, h1⟩ => by
    split at h1
    · split at h1
      · rename_i hh
        obtain ⟨ad, rfl, _, ws, hw, rv⟩ := RV.obj_of p.rl rx hh
        exact ⟨ad, ws, rfl, lof hw, fun q hq => NewQ.at (new_use p.rl h1 fun q H2 s e => ⟨_, e, rv.rev.mono (.new s)⟩) q hq⟩
      · exact h1.elim
    · cases rx with
      | flst hf rr => exact ⟨_, _, rfl, hf.sq, fun q hq => NewQ.at (new_use p.rl h1 fun q H2 s e => ⟨_, e, rr.rev.mono (.new s)⟩) q hq⟩
    · exact h1.elim
theorem d_negT (e : X.K = K) {lo hi : Option Expr} {pl ph : Env → Store → Res (Option Int)} {k : Nat} {p1 p2 p3 : Pos} (ha : PE X a (LE K G W fa)) (hl : PO X lo (LO K G W pl)) (hh : PO X hi (LO K G W ph)) : PE X (.Subscript a (.Slice lo hi (some (.UnaryOp .USub (.Constant (.int 1) k p1) p2)) p3) pos) (LE K G W (fNegT fa pl ph)) := by
  subst e
  refine PE.le (pe_negT ha hl hh) fun σ H Q h => (LX.step (R := RV X.K) h).mono fun x H1 ⟨m1, ρ, S1, d, p, rx, h1⟩ => ⟨m1, ρ, S1, p, (PR.bind (R := RB (Option Int)) h1).mono fun lo H2 ⟨m2, S2, lo', rl2, x2, e2, h2⟩ => ⟨m2, ρ, S2, p.go x2 rl2, (PR.bind (R := RB (Option Int)) h2).mono fun hi H3 ⟨m3, S3, hi', rl3, x3, e3, h3⟩ => ?_⟩⟩
  cases e2
  cases e3
  split at h3
  · split at h3
    · rename_i hz
      have rx' := rx.mono (x2.trans x3)
      cases rx' with
      | tup hp rr =>
        have rn := rr.negP lo hi
        exact ⟨_, _, rfl, hp.sq, by rw [← rn.len]; exact hz, fun q H4 n s hq => h3 m3 H4 _ (rl3.same s) (.same s) (.tup (.inl hq) (rn.mono (.same s)))⟩
    · exact h3.elim
  · exact h3.elim
/-- x[::-1] -/
def fRev (fa : Fe) : Fe := fun ρ S => (fa ρ S).bind fun d S1 => match d with
  | .obj i => (match S1[i]? with
    | some (.lst xs) => .ok (.obj S1.length) (S1 ++ [.lst xs.reverse])
    | _ => .bad)
  | .flst xs => .ok (.obj S1.length) (S1 ++ [.lst xs.reverse])
  | .tup xs => if (negPick xs none none).length ≤ sizeLine then .ok (.tup (negPick xs none none)) S1 else .bad
  | _ => .bad
theorem d_rev (e : X.K = K) {k : Nat} {p1 p2 p3 : Pos} (ha : PE X a (LE K G W fa)) : PE X (.Subscript a (.Slice none none (some (.UnaryOp .USub (.Constant (.int 1) k p1) p2)) p3) pos) (LE K G W (fRev fa)) := by
  refine PE.le (PE.or (d_revL (p1 := p1) (p2 := p2) (p3 := p3) (k := k) e ha) (d_negT e ha p_none p_none)) fun σ H Q ⟨m, ρ, S, p, h⟩ => ?_
  by_cases ht : ∃ xs S1, fa ρ S = .ok (.tup xs) S1
  · obtain ⟨xs, S1, et⟩ := ht
    refine .inr ⟨m, ρ, S, p, ?_⟩
    unfold fNegT
    unfold fRev at h
    rw [et] at h ⊢
    exact h
  · refine .inl ⟨m, ρ, S, p, ?_⟩
    unfold fRevL
    unfold fRev at h
    cases ef : fa ρ S with
    | bad => rw [ef] at h; exact h
    | exc c fs S1 => rw [ef] at h; exact h
    | ok d S1 =>
      rw [ef] at h
      cases d with
      | tup xs => exact absurd ⟨xs, S1, ef⟩ ht
      | _ => exact h
variable {o e f : Expr} {fo fe' ff : Fe} {apos cpos : Pos}
end
end Dz
/-! ### sorted(x), sorted(set(x)) -/
namespace Fz
open PySem PySem.Spec PyProof.Rows L2
/-- sorted(xs), a list of texts -/
def cSortS (K : PySem.W.Frag) : List V → Hp → VK → Prop := fun vs H Q => ∃ (a : Addr) (xs : List Str), vs = [V.ref a] ∧ SqL K H a (xs.map V.str) ∧ NewQ H (.lst ((sortF xs).map V.str)) Q
theorem k_sortS {X : Cx} {K : PySem.W.Frag} (e : X.K = K) : CallR X (.builtin "sorted") (cSortS K) := by
  subst e
  intro pins s σ H vs us Q I r h
  obtain ⟨a, xs, rfl, hs, q⟩ := h
  obtain ⟨its, rv, hl, hz⟩ := I.list hs
  rw [Vals.ref1 r]
  have hlen0 := rv.length
  refine PyProof.Rows.sorted_strsAny hl.isList rv.strs (by rw [← hlen0]; exact hz) fun out ys h1 h2 h3 => ?_
  obtain ⟨ep, he'⟩ := PyProof.Rows.sortedAll_at s.heap its out
  have ez := sortF_eq h2 h3
  subst ez
  have hlen : ((sortF xs).map V.str).length ≤ sizeLine := by rw [List.length_map, h2.length_eq]; rw [List.length_map] at hz; exact hz
  exact ⟨.ref _, upd H (s.heap.objs.size + 1) (.lst ((sortF xs).map V.str)), I.laid (t' := s.toks) (fun _ _ => PyProof.Rows.sortedAll_old) (Nat.le_succ _) ⟨hlen, out.toList, ep, vals_of_strs h1, he'⟩, rfl, NewQ.at q _ (I.hok.fresh (Nat.le_succ _))⟩
/-- sorted(d), a dict of fewer than 64 texts -/
def cSortD : List V → Hp → VK → Prop := fun xs H Q => ∃ (a : Addr) (kvs : List (Key × V)) (ks : List Str), xs = [.ref a] ∧ Rd H a (.dK kvs) ∧ kvs.map (·.1) = ks.map Sum.inr ∧ ks.length < 64 ∧ NewQ H (.lst ((sortF ks).map V.str)) Q
theorem k_sortD {X : Cx} (hc : X.calm = true) : CallR X (.builtin "sorted") cSortD := CallR.le (call_sortedD hc) fun _ _ _ ⟨a, kvs, ks, e, h, h1, h2, q⟩ => ⟨a, kvs, ks, e, h, h1, h2, fun ys p n s e => by
  have ez := sortF_eq n s
  subst ez
  exact q.at p e⟩
end Fz
namespace Dz
open PySem PySem.Spec PyProof.Rows L2 Fz
section
variable {X : Cx} {K : PySem.W.Frag} {G : Gd} {W : WX} {m : List Addr} {S : Store} {H : Hp} {σ : L2.St} {e : Expr} {fr : Env → Store → Res (List D)} {pos p p2 pos2 : Pos} {x y : Str}
theorem strsD_map : ∀ zs : List Str, strsD (zs.map D.str) = some zs
  | [] => rfl
  | z :: r => by rw [List.map_cons]; unfold strsD; rw [strsD_map r]; rfl
theorem strs_rvs : ∀ zs : List Str, RVs K m H (zs.map D.str) (zs.map V.str)
  | [] => .nil
  | z :: r => .cons (.str z) (strs_rvs r)
def keysS : List (Key × D) → Option (List Str)
  | [] => some []
  | (.inr z, _) :: r => (keysS r).map (z :: ·)
  | _ => none
theorem keysS_ok : ∀ {kvs : List (Key × D)} {es : List (Key × V)} {zs : List Str}, RKV K m H kvs es → keysS kvs = some zs → es.map (·.1) = zs.map Sum.inr
  | _, _, _, .nil, e => by cases e; rfl
  | _, _, _, .cons (a := a) (l₁ := as) h t, e => by
    obtain ⟨k, d⟩ := a
    cases k with
    | inl i => cases e
    | inr z =>
      have e' : (keysS as).map (z :: ·) = some _ := e
      rw [Option.map_eq_some_iff] at e'
      obtain ⟨zs, e2, rfl⟩ := e'
      rw [List.map_cons, List.map_cons, keysS_ok t e2, ← h.1]
def seqD (S : Store) : D → Option (List D)
  | .flst xs => some xs
  | .tup xs => some xs
  | .obj i => (match S[i]? with
    | some (.lst xs) => some xs
    | _ => none)
  | _ => none
theorem seqD_ok {d : D} {x : V} {xs : List D} (rl : Rl K m S H) (r : RV K m H d x) (e : seqD S d = some xs) : ∃ a vs, x = .ref a ∧ (SqL K H a vs ∨ SqT K H a vs) ∧ RVs K m H xs vs := by
  unfold seqD at e
  split at e
  · cases e; cases r with | flst h rr => exact ⟨_, _, rfl, .inl h.sq, rr⟩
  · cases e; cases r with | tup h rr => exact ⟨_, _, rfl, .inr h.sq, rr⟩
  · split at e
    · rename_i h
      cases e
      obtain ⟨a, rfl, ha, vs, hv, rr⟩ := RV.obj_of rl r h
      exact ⟨a, vs, rfl, .inl (lof hv), rr⟩
    · cases e
  · cases e
/-- sorted(set(xs)) -/
def gSset (ds : List D) (S : Store) : Res D := match ds with
  | [d] => (match (seqD S d).bind strsD with
    | some zs => if zs.length < 64 then .ok (.obj S.length) (S ++ [.lst ((sortF (nubS zs)).map D.str)]) else .bad
    | none => .bad)
  | _ => .bad
theorem nubS_len : ∀ l : List Str, (nubS l).length ≤ l.length
  | [] => Nat.le_refl _
  | x :: r => by
    unfold nubS
    split
    · exact Nat.le_succ_of_le (nubS_len r)
    · exact Nat.succ_le_succ (nubS_len r)
theorem sortF_of {l r : List Str} (h : l.Perm r) : sortF l = sortF r := isort_eq ltZ_negtrans ltZ_asymm ltZ_anti ((sortF_perm l).trans h) (isort_pair ltZ_negtrans ltZ_asymm l)
theorem d_sset (eK : X.K = K) (hc : X.calm = true) (hg : Gl X x) (hm : X.mg x = none) (hv : bootBuiltins x = some (.builtin "sorted")) (hg2 : Gl X y) (hm2 : X.mg y = none) (hv2 : bootBuiltins y = some (.type "set")) (ha : PA X [e] (LA K G W fr))
    (hn : x ≠ "__name__" := by decide) (hdb : (x == ("__debug__" : Str)) = false := by decide) (hn2 : y ≠ "__name__" := by decide) (hdb2 : (y == ("__debug__" : Str)) = false := by decide)
    (he : starEach [e] X.env = (false, eval e X.env) :: starEach [] X.env := by rfl) (he2 : starEach [.Call (.Name y p2) [e] [] pos2] X.env = (false, eval (.Call (.Name y p2) [e] [] pos2) X.env) :: starEach [] X.env := by rfl) : PE X (.Call (.Name x p) [.Call (.Name y p2) [e] [] pos2] [] pos) (LE K G W (fCall gSset fr)) := by
  have hi : PE X (.Call (.Name y p2) [e] [] pos2) (tCB (cSetX K X.prog X.w) (LA K G W fr)) := pe_callTy (k_setX eK hc) hg2 hm2 hv2 ha hn2 hdb2 he rfl
  refine PE.le (pe_callB (k_sortX hc) hg hm hv (pa_cons hi pa_nil he2) hn hdb he2 rfl) fun σ H Q h => ?_
  refine (LX.step (R := RVs K) (k := fun _ => gSset) h).mono fun xs H1 ⟨m1, ρ, S1, ds, p, rx, h1⟩ => ?_
  unfold gSset at h1
  split at h1
  · rename_i d
    obtain ⟨v, rfl, rv⟩ := rx.one
    split at h1
    · rename_i zs hz
      rw [Option.bind_eq_some_iff] at hz
      obtain ⟨xs, z1, z2⟩ := hz
      obtain ⟨a, vs, rfl, hs, rr⟩ := seqD_ok p.rl rv z1
      rw [strsD_ok rr z2] at hs
      split at h1
      · rename_i h64
        refine ⟨a, zs, rfl, hs, h64, fun q ks pm hq => ?_⟩
        refine ⟨q, ks, rfl, upd_same, Nat.lt_of_le_of_lt (by rw [pm.length_eq]; exact nubS_len zs) h64, ?_⟩
        have sm := new_same (o := TxO X.prog X.w q ks) hq
        rw [sortF_of pm]
        exact new_use (p.rl.same sm) (h1.shift (.same sm)) fun q2 H2 s e => ⟨_, e, strs_rvs _⟩
      · exact h1.elim
    · exact h1.elim
  · exact h1.elim
/-- sorted(x): a list of texts, a dict with texts for keys -/
def gSorted (ds : List D) (S : Store) : Res D := match ds with
  | [.flst xs] => (match strsD xs with
    | some zs => .ok (.obj S.length) (S ++ [.lst ((sortF zs).map D.str)])
    | none => .bad)
  | [.obj i] => (match S[i]? with
    | some (.lst xs) => (match strsD xs with
      | some zs => .ok (.obj S.length) (S ++ [.lst ((sortF zs).map D.str)])
      | none => .bad)
    | some (.dict kvs) => (match keysS kvs with
      | some zs => if zs.length < 64 then .ok (.obj S.length) (S ++ [.lst ((sortF zs).map D.str)]) else .bad
      | none => .bad)
    | _ => .bad)
  | _ => .bad
theorem c_sorted (e : X.K = K) (hc : X.calm = true) : CallD X K (.builtin "sorted") gSorted := by
  refine ⟨_, CallR.or (k_sortS e) (k_sortD hc), fun W m σ S H xs ds Q rl r q => ?_⟩
  unfold gSorted at q
  split at q
  · obtain ⟨v, rfl, rv⟩ := r.one
    split at q
    · rename_i zs hz
      cases rv with
      | flst h rr =>
        have hs := h.sq
        rw [strsD_ok rr hz] at hs
        exact .inl ⟨_, zs, rfl, hs, new_use rl q fun q2 H2 s e => ⟨_, e, strs_rvs _⟩⟩
    · exact q.elim
  · obtain ⟨v, rfl, rv⟩ := r.one
    split at q
    · rename_i hh
      obtain ⟨ad, rfl, _, ws, hw, rr⟩ := RV.obj_of rl rv hh
      split at q
      · rename_i zs hz
        rw [strsD_ok rr hz] at hw
        exact .inl ⟨_, zs, rfl, lof hw, new_use rl q fun q2 H2 s e => ⟨_, e, strs_rvs _⟩⟩
      · exact q.elim
    · rename_i hh
      obtain ⟨ad, rfl, _, es, hw, rr⟩ := RV.obj_of rl rv hh
      split at q
      · rename_i zs hz
        split at q
        · rename_i h64
          exact .inr ⟨_, es, zs, rfl, .inl hw, keysS_ok rr hz, h64, new_use rl q fun q2 H2 s e => ⟨_, e, strs_rvs _⟩⟩
        · exact q.elim
      · exact q.elim
    · exact q.elim
  · exact q.elim
end
end Dz
/-! ### what a call leaves behind and nobody holds is forgotten -/
namespace Dz
open PySem PySem.Spec PyProof.Rows L2 Fz
mutual
/-- no object from n on -/
def clD (n : Nat) : D → Bool
  | .tup xs => clDs n xs
  | .flst xs => clDs n xs
  | .obj i => decide (i < n)
  | _ => true
def clDs (n : Nat) : List D → Bool
  | [] => true
  | x :: xs => clD n x && clDs n xs
end
def clK {κ : Type} (n : Nat) : List (κ × D) → Bool
  | [] => true
  | kv :: r => clD n kv.2 && clK n r
def clO (n : Nat) : MO → Bool
  | .lst xs => clDs n xs
  | .dict kvs => clK n kvs
  | .fdict kvs => clK n kvs
  | .inst _ fs => clK n fs
section
variable {K : PySem.W.Frag} {m m' : List Addr} {H H' : Hp}
mutual
theorem RV.cl (x : ∀ (i : Nat) (a : Addr), m[i]? = some a → m'[i]? = some a) : ∀ {d : D} {v : V}, clD m.length d = true → RV K m' H' d v → RV K m H' d v
  | _, _, _, .non => .non
  | _, _, _, .bl b => .bl b
  | _, _, _, .int i => .int i
  | _, _, _, .str z => .str z
  | _, _, h, .tup p q => .tup p (RVs.cl x h q)
  | _, _, h, .flst p q => .flst p (RVs.cl x h q)
  | .obj i, _, h, .obj e => by
    have hi : i < m.length := by simpa [clD] using h
    have := x i _ (List.getElem?_eq_getElem hi)
    rw [e] at this
    cases this
    exact .obj (List.getElem?_eq_getElem hi)
  | _, _, _, .glob y => .glob y
  | _, _, _, .ty t => .ty t
  | _, _, _, .exc a => .exc a
theorem RVs.cl (x : ∀ (i : Nat) (a : Addr), m[i]? = some a → m'[i]? = some a) : ∀ {ds : List D} {vs : List V}, clDs m.length ds = true → RVs K m' H' ds vs → RVs K m H' ds vs
  | _, _, _, .nil => .nil
  | _, _, h, .cons p q => by
    simp only [clDs, Bool.and_eq_true] at h
    exact .cons (RV.cl x h.1 p) (RVs.cl x h.2 q)
end
mutual
theorem RV.clOf : ∀ {d : D} {v : V}, RV K m H d v → clD m.length d = true
  | _, _, .non => rfl
  | _, _, .bl b => rfl
  | _, _, .int i => rfl
  | _, _, .str z => rfl
  | _, _, .tup p q => RVs.clOf q
  | _, _, .flst p q => RVs.clOf q
  | _, _, .obj e => by simpa [clD] using (List.getElem?_eq_some_iff.mp e).1
  | _, _, .glob y => rfl
  | _, _, .ty t => rfl
  | _, _, .exc a => rfl
theorem RVs.clOf : ∀ {ds : List D} {vs : List V}, RVs K m H ds vs → clDs m.length ds = true
  | _, _, .nil => rfl
  | _, _, .cons p q => by simp only [clDs, RV.clOf p, RVs.clOf q, Bool.and_self]
end
theorem RKV.cl {κ : Type} (x : ∀ (i : Nat) (a : Addr), m[i]? = some a → m'[i]? = some a) {kvs : List (κ × D)} {es : List (κ × V)} (h : clK m.length kvs = true) (r : RKV K m' H' kvs es) : RKV K m H' kvs es := by
  induction r with
  | nil => exact .nil
  | cons p q ih =>
    simp only [clK, Bool.and_eq_true] at h
    exact .cons ⟨p.1, RV.cl x h.1 p.2⟩ (ih h.2)
theorem RO.cl (x : ∀ (i : Nat) (a : Addr), m[i]? = some a → m'[i]? = some a) {a : Addr} {o : MO} (h : clO m.length o = true) (r : RO K m' H' a o) : RO K m H' a o := by
  cases o with
  | lst _ => obtain ⟨vs, e, r⟩ := r; exact ⟨vs, e, RVs.cl x h r⟩
  | dict _ => obtain ⟨vs, e, r⟩ := r; exact ⟨vs, e, RKV.cl x h r⟩
  | fdict _ => obtain ⟨o, vs, e, r⟩ := r; exact ⟨o, vs, e, RKV.cl x h r⟩
  | inst _ _ => obtain ⟨o, vs, e, r⟩ := r; exact ⟨o, vs, e, RKV.cl x h r⟩
end
/-- what stood ahead is as it was, or holds nothing new -/
def Kept (S S1 : Store) : Prop := S.length ≤ S1.length ∧ ∀ (i : Nat) (o : MO), i < S.length → S1[i]? = some o → S[i]? = some o ∨ clO S.length o = true
open Classical in
/-! ### what it comes to -/
section
variable {S S1 : Store} {F : Fn} {ds : List D} {v : D} {ρ : Env} {f : Fe}
theorem Kept.gr {W : List Nat} (g : Gr W S S1) (h : ∀ i ∈ W, ∀ o, S1[i]? = some o → clO S.length o = true) : Kept S S1 := ⟨g.len, fun i o hi e => by
  by_cases hw : i ∈ W
  · exact .inr (h i hw o e)
  · exact .inl (by rw [← g.keep i hi hw]; exact e)⟩
end
end Dz
/-! ### instances of own classes: attributes -/
/-! ### a, *b, c = a tuple -/
namespace Dz
open PySem PySem.Spec PyProof.Rows L2 Fz
section
variable {X : Cx} {K : PySem.W.Frag} {G : Gd} {W : WX} {m : List Addr} {S : Store} {H : Hp} {σ : L2.St} {a e o i value t1 t2 t3 : Expr} {es : List Expr} {fa fo fi : Fe} {pos p : Pos} {cs : List Str} {f : Str} {js ks ls : List Nat} {n k j : Nat} {t u v : Ft} {us : Fts}
theorem LG.mono {v : V} {Q Q' : L2.St → Hp → Prop} (h : LG K G js t v σ H Q) (q : ∀ σ' H', Q σ' H' → Q' σ' H') : LG K G js t v σ H Q' := by
  obtain ⟨m, ρ, S, d, p, r, k⟩ := h
  refine ⟨m, ρ, S, d, p, r, ?_⟩
  revert k
  generalize t d ρ S = res
  intro k
  cases res with
  | ok ρ3 S3 => exact fun m' H' σ' a b c e f => q _ _ (k m' H' σ' a b c e f)
  | exc _ _ _ => exact k
  | bad => exact k
end
end Dz
/-! ### methods, new instances -/
namespace Dz
open PySem PySem.Spec PyProof.Rows L2 Fz
section
variable {X : Cx} {K : PySem.W.Frag} {G : Gd} {W : WX} {mm : List Addr} {S S1 : Store} {H H' : Hp} {σ : L2.St} {o e : Expr} {es : List Expr} {kws : List Keyword} {fo : Fe} {fr fk : Env → Store → Res (List D)} {pos p apos : Pos} {c m x : Str} {k n q N : Nat} {F : Fn} {ps ks : List Str} {fd : FuncData} {g : List D → List D → List D} {gV : List V → List V → List V}
/-- a method, by its class -/
structure Dm (P : Program) (w : World) (K : PySem.W.Frag) (mg : Str → Option Value) (base : Heap) (CX : CXT) (k : Nat) (c m : Str) (ps : List Str) (sp : Sp) (fd : FuncData) : Prop where
  cl : Cls K (He.ga K c)
  me : Meth K (He.ga K c) m (He.ma K (He.ga K c) m)
  ok : FnG P w K mg base CX k (He.ma K (He.ga K c) m) fd ps sp
end
end Dz
/-! ### while; dicts walked -/
namespace Dz
open PySem PySem.Spec PyProof.Rows L2 Fz
section
variable {X : Cx} {K : PySem.W.Frag} {G : Gd} {W : WX} {m m' : List Addr} {S S' : Store} {H H' : Hp} {σ : L2.St} {a b e tg c : Expr} {es : List Expr} {fa fb fE : Fe} {pos p apos cpos : Pos} {x : Str} {ρ : Env} {l : Nat} {ad : Addr} {od : Obj} {kvs : List (Key × D)} {ks : List (Key × V)}
/-! the lock -/
theorem Pt.unl {b : Addr} {xs : List V} (h : Pt K H b xs) (e : H ad = some (.frz od (.dK ks))) : Pt K (upd H ad (.dK ks)) b xs := by
  rcases h with ⟨o, d, h⟩ | h
  · refine .inl ⟨o, d, ?_⟩
    rw [upd_ne (fun z => by subst z; rw [h] at e; cases e)]
    exact h
  · exact .inr h
theorem FzL.unl {b : Addr} {xs : List V} (h : FzL K H b xs) (e : H ad = some (.frz od (.dK ks))) : FzL K (upd H ad (.dK ks)) b xs := by
  rcases h with ⟨o, h⟩ | h
  · refine .inl ⟨o, ?_⟩
    rw [upd_ne (fun z => by subst z; rw [h] at e; cases e)]
    exact h
  · exact .inr h
mutual
theorem RV.unl (e : H ad = some (.frz od (.dK ks))) : ∀ {d : D} {v : V}, RV K m H d v → RV K m (upd H ad (.dK ks)) d v
  | _, _, .non => .non
  | _, _, .bl b => .bl b
  | _, _, .int i => .int i
  | _, _, .str z => .str z
  | _, _, .tup p q => .tup (Pt.unl p e) (RVs.unl e q)
  | _, _, .flst p q => .flst (FzL.unl p e) (RVs.unl e q)
  | _, _, .obj h => .obj h
  | _, _, .glob y => .glob y
  | _, _, .ty t => .ty t
  | _, _, .exc a => .exc a
theorem RVs.unl (e : H ad = some (.frz od (.dK ks))) : ∀ {ds : List D} {vs : List V}, RVs K m H ds vs → RVs K m (upd H ad (.dK ks)) ds vs
  | _, _, .nil => .nil
  | _, _, .cons p q => .cons (RV.unl e p) (RVs.unl e q)
end
/-! keys, values -/
end
end Dz
/-! ### the pairs of a dict: plain tuples -/
/-! ### list(d.items()), sorted(d.items()) -/
/-! ### {k: v for .. in ..} -/
/-! ### zip; tables of the top; calls of what a name holds -/
namespace Dz
open PySem PySem.Spec PyProof.Rows L2 Fz
/-! ### tables -/
structure TabF (K : PySem.W.Frag) (w : World) (a : Addr) (rows : List (Str × D)) : Prop where
  d : ∃ es n, KDict K w a es n
  get : ∀ z d, rows.lookup z = some d → ∃ u v, PySem.W.nsIn K a z = some (some u) ∧ RelV v u ∧ ∀ m H, RV K m H d v
  no : ∀ z, rows.lookup z = none → PySem.W.nsIn K a z = some none
section
variable {X : Cx} {K : PySem.W.Frag} {G : Gd} {W : WX} {m m' : List Addr} {S S' : Store} {H H' : Hp} {σ : L2.St} {a b e tg c : Expr} {es : List Expr} {fa fb : Fe} {fr : Env → Store → Res (List D)} {pos p tpos : Pos} {x : Str} {ρ : Env} {rows : List (Str × D)}
/-! a call of what a name holds -/
end
end Dz
namespace Dz
open PySem PySem.Spec PyProof.Rows L2 Fz
/-! what is never reached -/
/-! levels -/
/-! facts of the top, as tests -/
end Dz
/-! the head, tables among the facts -/
/-! ### sorted(xs), a list of tuples of texts, the empty one perhaps the first -/
namespace Fz
open PySem PySem.Spec PyProof.Rows L2 PySem.W PySem.SeqAt
/-- the call of a tuple's own __lt__, as sorting makes it -/
theorem call_tup_lt {prog : Program} {w : World} {A : Around} {s : Shared} {E : Value → Shared → Prop} {Q : Value → Shared → Prop} {l b : Addr} {xs ys : Array Value} {e r : Nat → Bool} (hl : s.heap.IsTuple l xs) (hb : s.heap.IsTuple b ys)
    (he : ∀ j (h1 : j < xs.size) (h2 : j < ys.size), EqAt A.in1 s xs[j] ys[j] (e j)) (hr : ∀ j (h1 : j < xs.size) (h2 : j < ys.size), e j = false → RcLt A.in1 s xs[j] ys[j] (r j))
    (h : Q (.bool (firstLt e r (decide (xs.size < ys.size)) (List.range (min xs.size ys.size)))) s) : wpAny (model prog w) A (call (.builtin "tuple.__lt__") [.ref l, .ref b]) Q E s := by
  obtain ⟨⟨c1, d1, t1, s1⟩, ho, hc, n, hd⟩ := id hl
  obtain ⟨⟨c2, d2, t2, s2⟩, ho2, hc2, n2, hd2⟩ := id hb
  simp only at hc hd hc2 hd2
  subst hc hd hc2 hd2
  exact call_meets PySem.F.slot_tuple_lt ⟨_, ho, rfl⟩ PySem.F.entry_tuple_lt (PySem.F.args_tuple_lt_2 _ _)
    (tuple_ltAt l b xs ys n n2 d1 d2 s1 s2 e r) ⟨ho, ho2, he, hr, h⟩
theorem lt_tups {prog : Program} {w : World} {A : Around} {E : Value → Shared → Prop} {s : Shared} {xs ys : List PyData} {a b : Value} {as bs : List Addr} {Q : Bool → Shared → Prop} (ra : Reads s.heap a (.tuple xs) as) (rb : Reads s.heap b (.tuple ys) bs) (hal : alikeAll xs ys = true)
    (hu : A.units + min (PyData.tuple xs).depth (PyData.tuple ys).depth < cLine) (hq : Q (dataLt (.tuple xs) (.tuple ys)) s) : wpAny (model prog w) A (oneLt' true a b) Q E s := by
  cases ra with
  | @tuple l o vs n _ _ h1 h2 h3 h4 =>
    cases rb with
    | @tuple l' o' vs' n' _ _ k1 k2 k3 k4 =>
      have n1 : vs.size = xs.length := by simpa using SeqAt.ReadsAll.length _ _ _ h4
      have n2 : vs'.size = ys.length := by simpa using SeqAt.ReadsAll.length _ _ _ k4
      rw [dataLt_tuple, ← firstLt_toks xs ys hal, ← n1, ← n2] at hq
      rw [oneLt'_eq]
      simp only [if_true]
      have hu1 : A.units < cLine := by omega
      refine wpAny_bind (wpAny_cRoomFor hu1 (wpAny_bind (wpAny_callSpecialIfBound?_slot (T := "tuple") ⟨_, h1, h2⟩ PySem.F.slot_tuple_lt
        (call_tup_lt (e := pairEq xs ys) (r := fun j => dataLt (xs.getD j .none) (ys.getD j .none)) ⟨_, h1, h2, _, h3⟩ ⟨_, k1, k2, _, k3⟩ (fun j j1 j2 => ?_) (fun j j1 j2 hj => ?_) (wpAny_truthy_bool hq)))))
      · have := eqAt_alikeAll xs ys A.in1 s vs.toList vs'.toList _ _ h4 k4 hal (SeqAt.room_in hu) j (by simpa using j1) (by simpa using j2)
        simpa using this
      · have := rcLt_alikeAll xs ys A.in1 s vs.toList vs'.toList _ _ h4 k4 hal (SeqAt.room_in hu) j (by simpa using j1) (by simpa using j2) hj
        simpa using this
/-- the kind of tuples of which the first is empty -/
theorem kind_tups {M : Model} {A : Around} {E : Value → Shared → Prop} {s : Shared} {vs : List Value} {Q : SortKind → Shared → Prop} {T : List Value → Prop} (ht : ∀ v ∈ vs, ∃ (a : Addr) (o : Obj) (xs : Array Value) (n : Nat), v = .ref a ∧ s.heap.get? a = some o ∧ o.cls = .type "tuple" ∧ o.data = .seq xs n)
    (h0 : ∃ (a : Addr) (o : Obj) (n : Nat) (r : List Value), vs = .ref a :: r ∧ s.heap.get? a = some o ∧ o.data = .seq #[] n) (h : Q oneType' s) : wpAny M A (keyKind' vs.toArray) Q E s := by
  have first : ∀ v ∈ vs, ∃ r : Option Value, ∀ Q' : Option Value → Shared → Prop, Q' r s → wpAny M A (firstOfTuple' v) Q' E s := fun v hv => by
    obtain ⟨a, o, xs, n, rfl, ho, hc, hd⟩ := ht v hv
    refine ⟨xs[0]?, fun Q' hq => ?_⟩
    rw [kas_first_eq]
    refine wpAny_bind (Looks.here (show Looks M s.heap (typeOf (.ref a)) o.cls from (Looks.ld ho).andThen .now) ?_)
    rw [hc, if_neg (by decide)]
    exact wpAny_bind (listItems_at ho hd (wpAny_pure hq))
  have all : ∀ l : List Value, (∀ v ∈ l, v ∈ vs) → ∃ rs : List (Option Value), rs.length = l.length ∧ ∀ Q' : List (Option Value) → Shared → Prop, Q' rs s → wpAny M A (l.mapM firstOfTuple') Q' E s := by
    intro l
    induction l with
    | nil => exact fun _ => ⟨[], rfl, fun Q' hq => by rw [List.mapM_nil]; exact wpAny_pure hq⟩
    | cons v l ih =>
      intro hl
      obtain ⟨r, h1⟩ := first v (hl v (List.mem_cons_self ..))
      obtain ⟨rs, h2, h3⟩ := ih fun u hu => hl u (List.mem_cons_of_mem _ hu)
      exact ⟨r :: rs, by simp [h2], fun Q' hq => by
        rw [List.mapM_cons]
        exact wpAny_bind (h1 _ (wpAny_bind (h3 _ (wpAny_pure hq))))⟩
  obtain ⟨a, o, n, r, rfl, ho, hd⟩ := h0
  obtain ⟨_, o', _, _, e, ho', hc, _⟩ := ht _ (List.mem_cons_self ..)
  cases e
  rw [ho] at ho'
  cases ho'
  obtain ⟨rs, h2, h3⟩ := all r fun u hu => List.mem_cons_of_mem _ hu
  have ty : ∀ v ∈ Value.ref a :: r, Looks M s.heap (typeOf v) (.type "tuple") := fun v hv => by
    obtain ⟨b, o, xs, n, rfl, ho, hc, hd⟩ := ht v hv
    show Looks M s.heap (typeOf (.ref b)) (.type "tuple")
    exact hc ▸ (Looks.ld ho).andThen .now
  rw [kat_kind_eq, List.mapM_toArray, map_eq_pure_bind]
  have e1 : wpAny M A (List.mapM firstOfTuple' (Value.ref a :: r)) (fun x => Q oneType' ∘ fun _ => s) E s → True := fun _ => trivial
  refine wpAny_bind (wpAny_bind ?_)
  rw [List.mapM_cons]
  refine wpAny_bind ?_
  rw [kas_first_eq]
  refine wpAny_bind (Looks.here (show Looks M s.heap (typeOf (.ref a)) o.cls from (Looks.ld ho).andThen .now) ?_)
  rw [hc, if_neg (by decide)]
  refine wpAny_bind (listItems_at ho hd (wpAny_pure (wpAny_bind (h3 _ (wpAny_pure (wpAny_pure ?_))))))
  rw [if_neg (by simp), if_neg (by simp)]
  rw [oneTypeOnly'_eq, List.mapM_toArray, map_eq_pure_bind]
  refine wpAny_bind (wpAny_bind (wpAny_bind (kas_mapM (r := Value.type "tuple") _ (fun v hv Q' hq => (ty v hv).here hq) (wpAny_pure ?_))))
  have hall : ((List.map (fun _ => Value.type "tuple") (Value.ref a :: r)).toArray.all fun x => x == Value.type "tuple") = true := by
    simp only [List.all_toArray, List.all_map, List.all_eq_true]
    intro _ _
    exact beq_self_eq_true _
  have h00 : (List.map (fun _ => Value.type "tuple") (Value.ref a :: r)).toArray[0]? = some (Value.type "tuple") := by simp
  rw [h00]
  simp only [hall, if_true]
  exact wpAny_pure (wpAny_pure h)
end Fz
namespace Fz
open PySem PySem.Spec PyProof.Rows L2 PySem.W
def encS (p : List Str) : PyData := .tuple (p.map PyData.str)
def sortPs (ps : List (List Str)) : List (List Str) := ps.mergeSort (dataLe false encS)
theorem alike_strs : ∀ x y : List Str, alikeAll (x.map PyData.str) (y.map PyData.str) = true
  | [], _ => by simp [alikeAll]
  | _ :: _, [] => by simp [alikeAll]
  | _ :: x, _ :: y => by simp [alikeAll, alike, alike_strs x y]
theorem depth_strs : ∀ x : List Str, PyData.depthAll (x.map PyData.str) = 0
  | [] => rfl
  | _ :: x => by simp [PyData.depthAll, PyData.depth, depth_strs x]
theorem sorts_tups {prog : Program} {w : World} {A : Around} {s : Shared} {vs : List Value} {bs : List (List Str)} (e : EachIs (fun v b => ∃ as, Reads s.heap v (encS b) as) vs bs) (h0 : ∃ r, bs = [] :: r) (hu : A.units + 1 < cLine) : SortsAt prog w A s (dataKind s.heap (bs.map encS)) vs := by
  have hal : AllAlike (bs.map encS) := fun d hd d' hd' => by
    obtain ⟨x, _, rfl⟩ := List.mem_map.mp hd
    obtain ⟨y, _, rfl⟩ := List.mem_map.mp hd'
    simp [encS, alike, alike_strs]
  have e2 : EachIs (fun v d => ∃ as, Reads s.heap v d as) vs (bs.map encS) := each_map (R := fun v d => ∃ as, Reads s.heap v d as) encS e
  refine ⟨fun v hv => ?_, oneType', ?_, fun h2 E Q hq => ?_⟩
  · obtain ⟨d, hd, as, r⟩ := e2.left v hv
    exact ⟨_, dataKind_some hal hd r⟩
  · intro E x y a b Q ha hb hq
    obtain ⟨d, as, hd, ra, rfl⟩ := dataKind_inv ha
    obtain ⟨d', as', hd', rb, rfl⟩ := dataKind_inv hb
    obtain ⟨p, _, rfl⟩ := List.mem_map.mp hd
    obtain ⟨p', _, rfl⟩ := List.mem_map.mp hd'
    rw [keyLt'_oneType]
    refine lt_tups ra rb (alike_strs p p') ?_ hq
    have : (PyData.tuple (p.map PyData.str)).depth ≤ 1 := by simp [PyData.depth, depth_strs]
    omega
  · obtain ⟨r, rfl⟩ := h0
    refine kind_tups (T := fun _ => True) (fun v hv => ?_) ?_ hq
    · obtain ⟨d, hd, as, rr⟩ := e2.left v hv
      obtain ⟨p, _, rfl⟩ := List.mem_map.mp hd
      unfold encS at rr
      cases rr with
      | tuple h1 h2 h3 _ => exact ⟨_, _, _, _, rfl, h1, h2, h3⟩
    · cases e with
      | cons h t =>
        obtain ⟨as, rr⟩ := h
        unfold encS at rr
        cases rr with
        | @tuple a o xs n _ _ h1 h2 h3 h4 =>
          have : xs = #[] := by
            have := SeqAt.ReadsAll.length _ _ _ h4
            simp at this
            exact this
          subst this
          exact ⟨a, o, n, _, rfl, h1, h3⟩
theorem sorted_tups {prog : Program} {w : World} {A : Around} {E : Value → Shared → Prop} {s : Shared} {R : Value → List Str → Prop} {vs : List Value} {bs : List (List Str)} {l : Addr} {Q : Value → Shared → Prop} (hl : s.heap.IsList l vs.toArray) (e : EachIs R vs bs) (er : EachIs (fun v b => ∃ as, Reads s.heap v (encS b) as) vs bs)
    (h0 : (∃ r, bs = [] :: r) ∨ ∀ b ∈ bs, b ≠ []) (hL : bs.length ≤ sizeLine) (hu : A.units + 10 < cLine)
    (h : ∀ out, out.length = bs.length → EachIs R out (sortPs bs) → Q (.ref (s.heap.objs.size + 1)) { s with heap := sortedAll s.heap vs (List.toArray out) }) : wpAny (model prog w) A (call (.builtin "sorted") [.ref l]) Q E s := by
  have hal : AllAlike (bs.map encS) := fun d hd d' hd' => by
    obtain ⟨x, _, rfl⟩ := List.mem_map.mp hd
    obtain ⟨y, _, rfl⟩ := List.mem_map.mp hd'
    simp [encS, alike, alike_strs]
  rcases h0 with h0 | h0
  · have er' : EachIs (fun v b => ∃ as, Reads (sortingHeap (copyHeap s.heap vs) (s.heap.objs.size + 1) vs) v (encS b) as) vs bs := er.mono fun _ _ ⟨as, r⟩ => ⟨as, PyProof.Rows.Reads.keeps (fun _ _ => sorting_copy_old) r⟩
    have hu1 : A.in1.in1.units + 1 < cLine := by
      have : A.in1.in1.units ≤ A.units + 2 := by
        first
          | exact Nat.le_refl _
          | exact Nat.le_add_right _ _
      omega
    refine sorted_vals hl (sorts_tups (s := { s with heap := sortingHeap (copyHeap s.heap vs) (s.heap.objs.size + 1) vs }) er' h0 hu1) (by rw [e.length]; exact hL) ?_
    exact h _ (by rw [sortVals_length false rfl]; exact e.length) (sortVals_data false e er' hal)
  · refine sorted_data (enc := encS) hl e er hal (.inl fun d hd => ?_) hL (fun b hb => ?_) h
    · obtain ⟨x, hx, rfl⟩ := List.mem_map.mp hd
      cases x with
      | nil => exact absurd rfl (h0 _ hx)
      | cons a r => exact ⟨_, _, rfl⟩
    · have : (PyData.tuple (b.map PyData.str)).depth ≤ 1 := by simp [PyData.depth, depth_strs]
      show A.units + 2 + (PyData.tuple (b.map PyData.str)).depth < cLine
      omega
/-- sorted(xs): the items stand for tuples of texts -/
def cSortPs (K : PySem.W.Frag) : List V → Hp → VK → Prop := fun vs H Q => ∃ (a : Addr) (xs : List V) (ps : List (List Str)) (R : V → List Str → Prop), vs = [V.ref a] ∧ SqL K H a xs ∧ Paired R xs ps ∧ (∀ v p, R v p → ∃ b, v = .ref b ∧ SqT K H b (p.map V.str)) ∧ ((∃ r, ps = [] :: r) ∨ ∀ b ∈ ps, b ≠ []) ∧
  ∀ out, Paired R out (sortPs ps) → NewQ H (.lst out) Q
theorem each_vals {R : V → List Str → Prop} : ∀ {xs : List V} {us : List Value} {ps : List (List Str)}, Vals xs us → Paired R xs ps → EachIs (fun u p => ∃ v, RelV v u ∧ R v p) us ps
  | _, _, _, .nil, .nil => .nil
  | _, _, _, .cons r t, .cons h q => .cons ⟨_, r, h⟩ (each_vals t q)
theorem vals_each {R : V → List Str → Prop} : ∀ {us : List Value} {ps : List (List Str)}, EachIs (fun u p => ∃ v, RelV v u ∧ R v p) us ps → ∃ xs, Vals xs us ∧ Paired R xs ps
  | _, _, .nil => ⟨[], .nil, .nil⟩
  | _, _, .cons ⟨v, r, h⟩ t => by
    obtain ⟨xs, h1, h2⟩ := vals_each t
    exact ⟨v :: xs, .cons r h1, .cons h h2⟩
theorem k_sortPs {X : Cx} {K : PySem.W.Frag} (ek : X.K = K) (hu : X.A.units + 64 < cLine) : CallR X (.builtin "sorted") (cSortPs K) := by
  subst ek
  intro pins s σ H vs us Q I r ⟨a, xs, ps, R, e1, hs, hP, hR, h0, q⟩
  subst e1
  obtain ⟨its, rv, hl, hz⟩ := I.list hs
  obtain rfl := Vals.ref1 r
  have hlen := Paired.length hP
  have hvl := rv.length
  have rd : EachIs (fun v b => ∃ as, Reads s.heap v (encS b) as) its ps := (each_vals rv hP).mono fun u p ⟨v, r1, r2⟩ => by
    obtain ⟨b, rfl, ht⟩ := hR v p r2
    obtain rfl : u = Value.ref b := r1
    obtain ⟨its2, rv2, ⟨o, h1, h2, n, h3⟩, _⟩ := I.tuple ht
    have : ∀ {x : List Str} {y : List Value}, Vals (x.map V.str) y → ∃ as, ReadsAll s.heap y (x.map PyData.str) as := by
      intro x
      induction x with
      | nil => intro y h; cases h; exact ⟨_, .nil⟩
      | cons z x ih =>
        intro y h
        cases h with
        | cons r t =>
          obtain ⟨t', rfl⟩ := r
          obtain ⟨as, h⟩ := ih t
          exact ⟨_, .cons (.str _ _) h⟩
    obtain ⟨as, h4⟩ := this rv2
    exact ⟨as, .tuple h1 h2 h3 (by simpa using h4)⟩
  refine sorted_tups hl.isList (each_vals rv hP) rd h0 (by omega) (by omega) fun out ho hE => ?_
  obtain ⟨outV, h1, h2⟩ := vals_each hE
  obtain ⟨ep, he'⟩ := PyProof.Rows.sortedAll_at s.heap its (List.toArray out)
  have hlo : outV.length ≤ sizeLine := by have := h1.length; omega
  exact ⟨.ref (s.heap.objs.size + 1), upd H (s.heap.objs.size + 1) (.lst outV), I.laid (t' := s.toks) (fun _ _ => PyProof.Rows.sortedAll_old) (Nat.le_succ _) ⟨hlo, out, ep, h1, he'⟩, rfl, NewQ.at (q outV h2) _ (I.hok.fresh (Nat.le_succ _))⟩
end Fz
namespace Dz
open PySem PySem.Spec PyProof.Rows L2 Fz
def strsT : D → Option (List Str)
  | .tup xs => strsD xs
  | _ => none
def pathsD : List D → Option (List (List Str))
  | [] => some []
  | x :: r => (strsT x).bind fun p => (pathsD r).map (p :: ·)
def pathD (p : List Str) : D := .tup (p.map D.str)
def okPs (ps : List (List Str)) : Bool := (match ps with
  | [] :: _ => true
  | _ => ps.all fun p => !p.isEmpty)
/-- sorted(xs): a list of tuples of texts, or as before -/
def gSorted2 (ds : List D) (S : Store) : Res D := match ds with
  | [.obj i] => (match S[i]? with
    | some (.lst xs) => (match strsD xs with
      | some _ => gSorted ds S
      | none => (match pathsD xs with
        | some ps => if okPs ps = true then .ok (.obj S.length) (S ++ [.lst ((sortPs ps).map pathD)]) else .bad
        | none => .bad))
    | _ => gSorted ds S)
  | _ => gSorted ds S
section
variable {X : Cx} {K : PySem.W.Frag} {m : List Addr} {S : Store} {H : Hp}
theorem strsT_ok {d : D} {v : V} {p : List Str} (r : RV K m H d v) (e : strsT d = some p) : d = pathD p ∧ ∃ b, v = .ref b ∧ SqT K H b (p.map V.str) := by
  cases d with
  | tup xs =>
    cases r with | tup h rr =>
    have e' : strsD xs = some p := e
    have h1 := strsD_ok rr e'
    subst h1
    have h2 : ∀ {xs : List D} {p : List Str}, strsD xs = some p → xs = p.map D.str := by
      intro xs
      induction xs with
      | nil => intro p h; cases h; rfl
      | cons x xs ih =>
        intro p h
        cases x with
        | str z =>
          unfold strsD at h
          rw [Option.map_eq_some_iff] at h
          obtain ⟨q, h3, rfl⟩ := h
          rw [ih h3]; rfl
        | _ => simp [strsD] at h
    exact ⟨by rw [h2 e']; rfl, _, rfl, h.sq⟩
  | _ => cases e
theorem paths_pair : ∀ {xs : List D} {vs : List V} {ps : List (List Str)}, RVs K m H xs vs → pathsD xs = some ps → Paired (fun v p => RV K m H (pathD p) v) vs ps
  | [], _, _, .nil, e => by cases e; exact .nil
  | x :: xs, _, _, .cons r t, e => by
    unfold pathsD at e
    rw [Option.bind_eq_some_iff] at e
    obtain ⟨p, h1, h2⟩ := e
    rw [Option.map_eq_some_iff] at h2
    obtain ⟨ps, h3, rfl⟩ := h2
    obtain ⟨rfl, _⟩ := strsT_ok r h1
    exact .cons r (paths_pair t h3)
theorem pair_rvs : ∀ {vs : List V} {ps : List (List Str)}, Paired (fun v p => RV K m H (pathD p) v) vs ps → RVs K m H (ps.map pathD) vs
  | _, _, .nil => .nil
  | _, _, .cons r t => .cons r (pair_rvs t)
theorem c_sorted2 (ek : X.K = K) (hc : X.calm = true) (hu : X.A.units + 64 < cLine) : CallD X K (.builtin "sorted") gSorted2 := by
  obtain ⟨r, hr, o⟩ := c_sorted (X := X) ek hc
  refine ⟨_, CallR.or hr (k_sortPs ek hu), fun W m σ S H xs ds Q rl rr q => ?_⟩
  unfold gSorted2 at q
  split at q
  · split at q
    · rename_i i ys hi
      split at q
      · exact .inl (o W m σ S H xs _ Q rl rr q)
      · split at q
        · rename_i ps hp
          split at q
          · rename_i ho
            obtain ⟨v, rfl, rv⟩ := rr.one
            obtain ⟨a, rfl, hm, vs, hv, rs⟩ := RV.obj_of rl rv hi
            refine .inr ⟨a, vs, ps, _, rfl, lof hv, paths_pair rs hp, fun v p r => ?_, ?_, fun out hO => ?_⟩
            · have e : strsT (pathD p) = some p := strsD_map p
              exact (strsT_ok r e).2
            · cases ps with
              | nil => exact .inr (by simp)
              | cons p r =>
                cases p with
                | nil => exact .inl ⟨r, rfl⟩
                | cons a b =>
                  refine .inr fun c hc => ?_
                  have := List.all_eq_true.mp (show (((a :: b) :: r).all fun p => !p.isEmpty) = true from ho) c hc
                  intro e
                  rw [e] at this
                  cases this
            · exact new_use rl q fun p2 H2 s e => ⟨out, e, (pair_rvs hO).mono (.new s)⟩
          · exact q.elim
        · exact q.elim
    · exact .inl (o W m σ S H xs _ Q rl rr q)
  · exact .inl (o W m σ S H xs _ Q rl rr q)
end
end Dz
/-! ### step lemmas for attributes, methods, tables and the like -/
namespace Dz
open PySem L2
/-! what a dict holds, written or walked -/
end Dz
/-! ### comprehensions whose litter is swept -/
/-! ### the head's fragment, gathered with a mask in place of erased doubles -/
/-! ### x in d.values() -/
/-! ### max(xs, default=d) of whole numbers -/
/-! ### instances made by keywords, or with defaults -/
/-! ### the head's fragment, its addresses told -/
namespace Fz
open PySem
theorem obsL_eq {as : List Addr} {fa : List He.Fa} {fn : List He.DefD} {chk : PySem.W.Frag → Bool} {ts : List TabR} {g : Addr → Option Obj} {s : Shared} (h : ∀ a, g a = s.heap.get? a) : obsL as fa fn chk ts g = (hookL as fa fn chk ts).obs s := by
  have e : g = s.heap.get? := funext h
  rw [e] <;> rfl
end Fz
/-! ### max(xs), a list of pairs of a whole number and a tuple of texts -/
/-! ### sorted(d), a dict whose keys are growing whole numbers -/
namespace Fz
open PySem L2 Dz
theorem sc_law_purse : FnScope ["_law_script", "_law_k", "_law_cell"] ["_law_script", "_law_k"] (defScope s_law_purse) := ⟨rfl, rfl, rfl, by decide +kernel, rfl, by decide +kernel, by decide +kernel⟩
theorem sc_law_take : FnScope ["_law_purse_here", "_law_many", "_law_found"] ["_law_purse_here", "_law_many"] (defScope s_law_take) := ⟨rfl, rfl, rfl, by decide +kernel, rfl, by decide +kernel, by decide +kernel⟩
theorem sc_law_words : FnScope ["_law_purse_here", "_law_many", "_law_stem", "_law_at", "_law_letters", "_law_turn", "_law_letter"] ["_law_purse_here", "_law_many"] (defScope s_law_words) := ⟨rfl, rfl, rfl, by decide +kernel, rfl, by decide +kernel, by decide +kernel⟩
theorem sc_law_folk : FnScope ["_law_purse_here", "_law_found", "_law_clan"] ["_law_purse_here"] (defScope s_law_folk) := ⟨rfl, rfl, rfl, by decide +kernel, rfl, by decide +kernel, by decide +kernel⟩
theorem sc_law_are_rights : FnScope ["_law_matter", "_law_one"] ["_law_matter"] (defScope s_law_are_rights) := ⟨rfl, rfl, rfl, by decide +kernel, rfl, by decide +kernel, by decide +kernel⟩
theorem sc_law_is_word : FnScope ["_law_matter", "_law_sign"] ["_law_matter"] (defScope s_law_is_word) := ⟨rfl, rfl, rfl, by decide +kernel, rfl, by decide +kernel, by decide +kernel⟩
theorem sc_law_are_groups : FnScope ["_law_matter", "_law_ahead", "_law_one", "_law_person"] ["_law_matter"] (defScope s_law_are_groups) := ⟨rfl, rfl, rfl, by decide +kernel, rfl, by decide +kernel, by decide +kernel⟩
theorem sc_is_rights : FnScope ["thing", "one"] ["thing"] (defScope s_is_rights) := ⟨rfl, rfl, rfl, by decide +kernel, rfl, by decide +kernel, by decide +kernel⟩
theorem sc_are_growing : FnScope ["row", "place"] ["row"] (defScope s_are_growing) := ⟨rfl, rfl, rfl, by decide +kernel, rfl, by decide +kernel, by decide +kernel⟩
theorem sc_is_word : FnScope ["thing", "sign"] ["thing"] (defScope s_is_word) := ⟨rfl, rfl, rfl, by decide +kernel, rfl, by decide +kernel, by decide +kernel⟩
theorem sc_are_users : FnScope ["thing", "user"] ["thing"] (defScope s_are_users) := ⟨rfl, rfl, rfl, by decide +kernel, rfl, by decide +kernel, by decide +kernel⟩
theorem sc_is_group : FnScope ["thing"] ["thing"] (defScope s_is_group) := ⟨rfl, rfl, rfl, by decide +kernel, rfl, by decide +kernel, by decide +kernel⟩
theorem sc_is_groups : FnScope ["thing", "one"] ["thing"] (defScope s_is_groups) := ⟨rfl, rfl, rfl, by decide +kernel, rfl, by decide +kernel, by decide +kernel⟩
theorem sc_law_told : FnScope ["_law_matter", "_law_kept", "_law_due", "_law_told_here", "_law_one"] ["_law_matter"] (defScope s_law_told) := ⟨rfl, rfl, rfl, by decide +kernel, rfl, by decide +kernel, by decide +kernel⟩
theorem sc_law_rights_amiss : FnScope ["_law_purse_here", "_law_grants", "_law_way", "_law_at", "_law_bad"] ["_law_purse_here", "_law_grants"] (defScope s_law_rights_amiss) := ⟨rfl, rfl, rfl, by decide +kernel, rfl, by decide +kernel, by decide +kernel⟩
theorem sc_law_odd : FnScope ["_law_purse_here", "_law_some"] ["_law_purse_here"] (defScope s_law_odd) := ⟨rfl, rfl, rfl, by decide +kernel, rfl, by decide +kernel, by decide +kernel⟩
theorem sc_law_groups_amiss : FnScope ["_law_purse_here", "_law_folk_here", "_law_way", "_law_odd_here", "_law_at", "_law_to", "_law_clan", "_law_persons", "_law_bent", "_law_one"] ["_law_purse_here", "_law_folk_here"] (defScope s_law_groups_amiss) := ⟨rfl, rfl, rfl, by decide +kernel, rfl, by decide +kernel, by decide +kernel⟩
theorem sc_law : FnScope ["_law_script", "_law_k", "_law_purse_here", "_law_grants", "_law_turn", "_law_folk_here", "_law_some", "_law_matter", "_law_crowd"] ["_law_script"] (defScope s_law) := ⟨rfl, rfl, rfl, by decide +kernel, rfl, by decide +kernel, by decide +kernel⟩
structure Md (K : PySem.W.Frag) (w : World) (mg : Str → Option Value) : Prop where
  t_GIVEN_RIGHTS : ∀ m H, RV K m H (.tup [(.str ""), (.str "r"), (.str "w"), (.str "rw")]) (.ref (He.ga K "GIVEN_RIGHTS"))
  z_all : mg "all" = none
  z_bool : mg "bool" = none
  z_isinstance : mg "isinstance" = none
  z_len : mg "len" = none
  z_list : mg "list" = none
  z_max : mg "max" = none
  z_min : mg "min" = none
  z_range : mg "range" = none
  z_repr : mg "repr" = none
  z_set : mg "set" = none
  z_sorted : mg "sorted" = none
  z_str : mg "str" = none
  z_tuple : mg "tuple" = none
  gt_GIVEN_RIGHTS : mg "GIVEN_RIGHTS" = some (.ref (He.ga K "GIVEN_RIGHTS"))
  c_LETTERS : ∃ t, mg "LETTERS" = some (.str "abcdefghijklmnopqrstuvwxyz" t)
  c_MOST_GROUPS : ∃ t, mg "MOST_GROUPS" = some (.int 8 t)
  c_MOST_LETTERS : ∃ t, mg "MOST_LETTERS" = some (.int 8 t)
  g_law_purse : mg "_law_purse" = some (.ref (He.ga K "_law_purse"))
  d_law_purse : ∃ fd, FunD K "_law_purse" "_law_purse" (defArgs s_law_purse) (defBody s_law_purse) (defScope s_law_purse) [] [] (He.ga K "_law_purse") fd
  g_law_take : mg "_law_take" = some (.ref (He.ga K "_law_take"))
  d_law_take : ∃ fd, FunD K "_law_take" "_law_take" (defArgs s_law_take) (defBody s_law_take) (defScope s_law_take) [] [] (He.ga K "_law_take") fd
  g_law_words : mg "_law_words" = some (.ref (He.ga K "_law_words"))
  d_law_words : ∃ fd, FunD K "_law_words" "_law_words" (defArgs s_law_words) (defBody s_law_words) (defScope s_law_words) [] [] (He.ga K "_law_words") fd
  g_law_folk : mg "_law_folk" = some (.ref (He.ga K "_law_folk"))
  d_law_folk : ∃ fd, FunD K "_law_folk" "_law_folk" (defArgs s_law_folk) (defBody s_law_folk) (defScope s_law_folk) [] [] (He.ga K "_law_folk") fd
  g_law_are_rights : mg "_law_are_rights" = some (.ref (He.ga K "_law_are_rights"))
  d_law_are_rights : ∃ fd, FunD K "_law_are_rights" "_law_are_rights" (defArgs s_law_are_rights) (defBody s_law_are_rights) (defScope s_law_are_rights) [] [] (He.ga K "_law_are_rights") fd
  g_law_is_word : mg "_law_is_word" = some (.ref (He.ga K "_law_is_word"))
  d_law_is_word : ∃ fd, FunD K "_law_is_word" "_law_is_word" (defArgs s_law_is_word) (defBody s_law_is_word) (defScope s_law_is_word) [] [] (He.ga K "_law_is_word") fd
  g_law_are_groups : mg "_law_are_groups" = some (.ref (He.ga K "_law_are_groups"))
  d_law_are_groups : ∃ fd, FunD K "_law_are_groups" "_law_are_groups" (defArgs s_law_are_groups) (defBody s_law_are_groups) (defScope s_law_are_groups) [] [] (He.ga K "_law_are_groups") fd
  g_is_rights : mg "is_rights" = some (.ref (He.ga K "is_rights"))
  d_is_rights : ∃ fd, FunD K "is_rights" "is_rights" (defArgs s_is_rights) (defBody s_is_rights) (defScope s_is_rights) [] [] (He.ga K "is_rights") fd
  g_are_growing : mg "are_growing" = some (.ref (He.ga K "are_growing"))
  d_are_growing : ∃ fd, FunD K "are_growing" "are_growing" (defArgs s_are_growing) (defBody s_are_growing) (defScope s_are_growing) [] [] (He.ga K "are_growing") fd
  g_is_word : mg "is_word" = some (.ref (He.ga K "is_word"))
  d_is_word : ∃ fd, FunD K "is_word" "is_word" (defArgs s_is_word) (defBody s_is_word) (defScope s_is_word) [] [] (He.ga K "is_word") fd
  g_are_users : mg "are_users" = some (.ref (He.ga K "are_users"))
  d_are_users : ∃ fd, FunD K "are_users" "are_users" (defArgs s_are_users) (defBody s_are_users) (defScope s_are_users) [] [] (He.ga K "are_users") fd
  g_is_group : mg "is_group" = some (.ref (He.ga K "is_group"))
  d_is_group : ∃ fd, FunD K "is_group" "is_group" (defArgs s_is_group) (defBody s_is_group) (defScope s_is_group) [] [] (He.ga K "is_group") fd
  g_is_groups : mg "is_groups" = some (.ref (He.ga K "is_groups"))
  d_is_groups : ∃ fd, FunD K "is_groups" "is_groups" (defArgs s_is_groups) (defBody s_is_groups) (defScope s_is_groups) [] [] (He.ga K "is_groups") fd
  g_law_told : mg "_law_told" = some (.ref (He.ga K "_law_told"))
  d_law_told : ∃ fd, FunD K "_law_told" "_law_told" (defArgs s_law_told) (defBody s_law_told) (defScope s_law_told) [] [] (He.ga K "_law_told") fd
  g_law_rights_amiss : mg "_law_rights_amiss" = some (.ref (He.ga K "_law_rights_amiss"))
  d_law_rights_amiss : ∃ fd, FunD K "_law_rights_amiss" "_law_rights_amiss" (defArgs s_law_rights_amiss) (defBody s_law_rights_amiss) (defScope s_law_rights_amiss) [] [] (He.ga K "_law_rights_amiss") fd
  g_law_odd : mg "_law_odd" = some (.ref (He.ga K "_law_odd"))
  d_law_odd : ∃ fd, FunD K "_law_odd" "_law_odd" (defArgs s_law_odd) (defBody s_law_odd) (defScope s_law_odd) [] [] (He.ga K "_law_odd") fd
  g_law_groups_amiss : mg "_law_groups_amiss" = some (.ref (He.ga K "_law_groups_amiss"))
  d_law_groups_amiss : ∃ fd, FunD K "_law_groups_amiss" "_law_groups_amiss" (defArgs s_law_groups_amiss) (defBody s_law_groups_amiss) (defScope s_law_groups_amiss) [] [] (He.ga K "_law_groups_amiss") fd
  g_law : mg "law" = some (.ref (He.ga K "law"))
  d_law : ∃ fd, FunD K "law" "law" (defArgs s_law) (defBody s_law) (defScope s_law) [] [] (He.ga K "law") fd
theorem Md.c_GIVEN_RIGHTS {K : PySem.W.Frag} {w : World} {mg : Str → Option Value} (M : Md K w mg) : mg "GIVEN_RIGHTS" = some (.ref (He.ga K "GIVEN_RIGHTS")) ∧ ∀ m H, RV K m H (.tup [(.str ""), (.str "r"), (.str "w"), (.str "rw")]) (.ref (He.ga K "GIVEN_RIGHTS")) := ⟨M.gt_GIVEN_RIGHTS, M.t_GIVEN_RIGHTS⟩
end Fz
noncomputable section
namespace Fz
open PySem L2 Dz
abbrev gd_is_groups_0_thing {α : Type} : List α → List α → List α := permD [0]
abbrev gd_is_rights_0_thing {α : Type} : List α → List α → List α := permD [0]
def b__law_purse : Fs :=
 (sSeq (sAsg (fOp gIx (fOp gAdd (fSl (fVar 0) (pSome (fVar 1)) (pSome (fOp gAdd (fVar 1) (fC (.int 1))))) (fLst (aCons (fC (.int 0)) aNil))) (fC (.int 0))) (tgName 2))
 (sSeq (sIf (fOr (tst (fOp gGe (fVar 2) (fOp gPow (fC (.int 10)) (fC (.int 18))))) (tst (fOp gLt (fVar 2) (fC (.int 0)))))
 (sRet (fLst (aCons (fCall gMax (aCons (fVar 2) (aCons (fOp gSub (fUn gNeg (fC (.int 1))) (fVar 2)) aNil))) (aCons (fC (.int 0)) aNil))))
 sNext)
 (sRet (fLst (aCons (fC (.int 0)) (aCons (fOp gAdd (fC (.int 1)) (fOp gMod (fOp gAdd (fOp gMul (fVar 2) (fC (.int 48271))) (fOp gMul (fOp gMul (fOp gAdd (fVar 1) (fC (.int 1))) (fC (.int 69621))) (fOp gAdd (fVar 1) (fC (.int 7))))) (fC (.int 2147483629)))) aNil))))))
def F__law_purse : Fn := bodyF ["_law_script", "_law_k", "_law_cell"] b__law_purse
def b__law_take : Fs :=
 (sSeq (sIf (tst (fOp gEq (fOp gIx (fVar 0) (fC (.int 1))) (fC (.int 0))))
 (sSeq (sAsg (fOp gMod (fOp gIx (fVar 0) (fC (.int 0))) (fVar 1)) (tgName 2))
 (sSeq (sSetIx (fVar 0) (fC (.int 0)) (fOp gFdiv (fOp gIx (fVar 0) (fC (.int 0))) (fVar 1)))
 (sRet (fVar 2))))
 sNext)
 (sSeq (sSetIx (fVar 0) (fC (.int 1)) (fOp gAdd (fC (.int 1)) (fOp gMod (fOp gAdd (fOp gMul (fOp gIx (fVar 0) (fC (.int 1))) (fC (.int 39373))) (fC (.int 7919))) (fC (.int 2147483587)))))
 (sRet (fOp gMod (fOp gFdiv (fOp gMod (fOp gMul (fOp gIx (fVar 0) (fC (.int 1))) (fC (.int 30269))) (fC (.int 2147483563))) (fC (.int 11))) (fVar 1)))))
def F__law_take : Fn := bodyF ["_law_purse_here", "_law_many", "_law_found"] b__law_take
def b__law_words : Fs :=
 (sSeq (sAsg (fTup (aCons (fOp gIx (fLst (aCons (fC (.str "")) (aCons (fC (.str "ab")) (aCons (fC (.str "roo")) (aCons (fC (.str "zzzzzzz")) aNil))))) (fCallN 2 F__law_take (aCons (fVar 0) (aCons (fC (.int 4)) aNil)))) (aCons (fCallN 2 F__law_take (aCons (fVar 0) (aCons (fC (.int 26)) aNil))) aNil))) (tgTup 2 (tgCons (tgName 2) (tgCons (tgName 3) tgNil))))
 (sSeq (sAsg (fCall gSorted2 (aCons (fLc (jRng1 (aCons (fVar 1) aNil)) (tgName 5) ttYes (fOp gIx (fC (.str "abcdefghijklmnopqrstuvwxyz")) (fOp gMod (fOp gAdd (fVar 3) (fOp gMul (fC (.int 3)) (fVar 5))) (fC (.int 26)))) [5]) aNil)) (tgName 4))
 (sRet (fLc (iSeq (fVar 4)) (tgName 6) ttYes (fOp gAdd (fVar 2) (fVar 6)) [6]))))
def F__law_words : Fn := bodyF ["_law_purse_here", "_law_many", "_law_stem", "_law_at", "_law_letters", "_law_turn", "_law_letter"] b__law_words
def b__law_folk : Fs :=
 (sSeq (sAsg (fLst aNil) (tgName 1))
 (sSeq (sFor (iSeq (fCallN 2 F__law_words (aCons (fVar 0) (aCons (fOp gIx (fLst (aCons (fC (.int 0)) (aCons (fC (.int 1)) (aCons (fC (.int 2)) (aCons (fC (.int 3)) (aCons (fC (.int 8)) (aCons (fC (.int 9)) aNil))))))) (fCallN 2 F__law_take (aCons (fVar 0) (aCons (fC (.int 6)) aNil)))) aNil)))) (tgName 2)
 (sExpr (fMt "list" gApp (fVar 1) (aCons (fTup (aCons (fVar 2) (aCons (fCall gTuple (aCons (fCallN 2 F__law_words (aCons (fVar 0) (aCons (fCallN 2 F__law_take (aCons (fVar 0) (aCons (fC (.int 5)) aNil))) aNil))) aNil)) aNil))) aNil))))
 (sRet (fCall gTuple (aCons (fVar 1) aNil)))))
def F__law_folk : Fn := bodyF ["_law_purse_here", "_law_found", "_law_clan"] b__law_folk
def b__law_are_rights : Fs :=
 (sSeq (sIf (fOr (fNot (tst (fCall gIsi (aCons (fVar 0) (aCons (fC (.ty "tuple")) aNil))))) (tst (fOp gNe (fCall gLen (aCons (fVar 0) aNil)) (fC (.int 3)))))
 (sRet (fC (.bl false)))
 sNext)
 (sRet (fCall (gAll true) (aCons (fLc (iSeq (fVar 0)) (tgName 1) ttYes (fAndV (fCall gIsi (aCons (fVar 1) (aCons (fC (.ty "str")) aNil))) (fOp (gIn false) (fVar 1) (fLst (aCons (fC (.str "")) (aCons (fC (.str "r")) (aCons (fC (.str "w")) (aCons (fC (.str "rw")) aNil))))))) [1]) aNil))))
def F__law_are_rights : Fn := bodyF ["_law_matter", "_law_one"] b__law_are_rights
def b__law_is_word : Fs :=
 (sSeq (sIf (fOr (fNot (tst (fCall gIsi (aCons (fVar 0) (aCons (fC (.ty "str")) aNil))))) (fNot (tst (fChain gLe gLe (fC (.int 1)) (fCall gLen (aCons (fVar 0) aNil)) (fC (.int 8))))))
 (sRet (fC (.bl false)))
 sNext)
 (sRet (fCall (gAll true) (aCons (fLc (iSeq (fVar 0)) (tgName 1) ttYes (fOp (gIn false) (fVar 1) (fC (.str "abcdefghijklmnopqrstuvwxyz"))) [1]) aNil))))
def F__law_is_word : Fn := bodyF ["_law_matter", "_law_sign"] b__law_is_word
def b__law_are_groups : Fs :=
 (sSeq (sIf (fOr (fNot (tst (fCall gIsi (aCons (fVar 0) (aCons (fC (.ty "tuple")) aNil))))) (tst (fOp gGt (fCall gLen (aCons (fVar 0) aNil)) (fC (.int 8)))))
 (sRet (fC (.bl false)))
 sNext)
 (sSeq (sAsg (fC (.str "")) (tgName 1))
 (sSeq (sFor (iSeq (fVar 0)) (tgName 2)
 (sSeq (sIf (fOr (fNot (tst (fCall gIsi (aCons (fVar 2) (aCons (fC (.ty "tuple")) aNil))))) (fOr (tst (fOp gNe (fCall gLen (aCons (fVar 2) aNil)) (fC (.int 2)))) (fOr (fNot (tst (fCallN 1 F__law_is_word (aCons (fOp gIx (fVar 2) (fC (.int 0))) aNil)))) (fNot (tst (fCall gIsi (aCons (fOp gIx (fVar 2) (fC (.int 1))) (aCons (fC (.ty "tuple")) aNil))))))))
 (sRet (fC (.bl false)))
 sNext)
 (sSeq (sIf (fOr (tst (fOp gLe (fOp gIx (fVar 2) (fC (.int 0))) (fVar 1))) (fNot (tst (fCall (gAll true) (aCons (fLc (iSeq (fOp gIx (fVar 2) (fC (.int 1)))) (tgName 3) ttYes (fCallN 1 F__law_is_word (aCons (fVar 3) aNil)) [3]) aNil)))))
 (sRet (fC (.bl false)))
 sNext)
 (sSeq (sIf (tst (fOp gNe (fCall gList (aCons (fOp gIx (fVar 2) (fC (.int 1))) aNil)) (fCall gSset (aCons (fOp gIx (fVar 2) (fC (.int 1))) aNil))))
 (sRet (fC (.bl false)))
 sNext)
 (sAsg (fOp gIx (fVar 2) (fC (.int 0))) (tgName 1))))))
 (sRet (fC (.bl true))))))
def F__law_are_groups : Fn := bodyF ["_law_matter", "_law_ahead", "_law_one", "_law_person"] b__law_are_groups
def b_is_rights : Fs :=
 (sSeq (sIf (fOr (fNot (tst (fCall gIsi (aCons (fVar 0) (aCons (fC (.ty "tuple")) aNil))))) (tst (fOp gNe (fCall gLen (aCons (fVar 0) aNil)) (fC (.int 3)))))
 (sRet (fC (.bl false)))
 sNext)
 (sRet (fCall (gAll true) (aCons (fLc (iSeq (fVar 0)) (tgName 1) ttYes (fAndV (fCall gIsi (aCons (fVar 1) (aCons (fC (.ty "str")) aNil))) (fOp (gIn false) (fVar 1) (fC (.tup [(.str ""), (.str "r"), (.str "w"), (.str "rw")])))) [1]) aNil))))
def F_is_rights : Fn := bodyF ["thing", "one"] b_is_rights
def b_are_growing : Fs :=
 (sRet (fCall (gAll true) (aCons (fLc (jRng2 (aCons (fC (.int 1)) (aCons (fCall gLen (aCons (fVar 0) aNil)) aNil))) (tgName 1) ttYes (fOp gLt (fOp gIx (fVar 0) (fOp gSub (fVar 1) (fC (.int 1)))) (fOp gIx (fVar 0) (fVar 1))) [1]) aNil)))
def F_are_growing : Fn := bodyF ["row", "place"] b_are_growing
def b_is_word : Fs :=
 (sSeq (sIf (fOr (fNot (tst (fCall gIsi (aCons (fVar 0) (aCons (fC (.ty "str")) aNil))))) (fNot (tst (fChain gLe gLe (fC (.int 1)) (fCall gLen (aCons (fVar 0) aNil)) (fC (.int 8))))))
 (sRet (fC (.bl false)))
 sNext)
 (sRet (fCall (gAll true) (aCons (fLc (iSeq (fVar 0)) (tgName 1) ttYes (fOp (gIn false) (fVar 1) (fC (.str "abcdefghijklmnopqrstuvwxyz"))) [1]) aNil))))
def F_is_word : Fn := bodyF ["thing", "sign"] b_is_word
def b_are_users : Fs :=
 (sRet (fAndV (fCall gIsi (aCons (fVar 0) (aCons (fC (.ty "tuple")) aNil))) (fAndV (fCall (gAll true) (aCons (fLc (iSeq (fVar 0)) (tgName 1) ttYes (fCallN 1 F_is_word (aCons (fVar 1) aNil)) [1]) aNil)) (fCallN 1 F_are_growing (aCons (fVar 0) aNil)))))
def F_are_users : Fn := bodyF ["thing", "user"] b_are_users
def b_is_group : Fs :=
 (sRet (fAndV (fCall gIsi (aCons (fVar 0) (aCons (fC (.ty "tuple")) aNil))) (fAndV (fOp gEq (fCall gLen (aCons (fVar 0) aNil)) (fC (.int 2))) (fAndV (fCallN 1 F_is_word (aCons (fOp gIx (fVar 0) (fC (.int 0))) aNil)) (fCallN 1 F_are_users (aCons (fOp gIx (fVar 0) (fC (.int 1))) aNil))))))
def F_is_group : Fn := bodyF ["thing"] b_is_group
def b_is_groups : Fs :=
 (sSeq (sIf (fOr (fNot (tst (fCall gIsi (aCons (fVar 0) (aCons (fC (.ty "tuple")) aNil))))) (fOr (tst (fOp gGt (fCall gLen (aCons (fVar 0) aNil)) (fC (.int 8)))) (fNot (tst (fCall (gAll true) (aCons (fLc (iSeq (fVar 0)) (tgName 1) ttYes (fCallN 1 F_is_group (aCons (fVar 1) aNil)) [1]) aNil))))))
 (sRet (fC (.bl false)))
 sNext)
 (sRet (fCallN 1 F_are_growing (aCons (fLc (iSeq (fVar 0)) (tgName 1) ttYes (fOp gIx (fVar 1) (fC (.int 0))) [1]) aNil))))
def F_is_groups : Fn := bodyF ["thing", "one"] b_is_groups
def b__law_told : Fs :=
 (sSeq (sAsg (fCall gRepr (aCons (fVar 0) aNil)) (tgName 1))
 (sSeq (sAsg (fLst (aCons (fCallN 1 F__law_are_rights (aCons (fVar 0) aNil)) (aCons (fCallN 1 F__law_are_groups (aCons (fVar 0) aNil)) aNil))) (tgName 2))
 (sSeq (sFor (iSeq (fLst (aCons (fLst (aCons (fCallN 1 F_is_rights (aCons (fVar 0) aNil)) (aCons (fCallN 1 F_is_groups (aCons (fVar 0) aNil)) aNil))) (aCons (fLst (aCons (fCallK 0 1 gd_is_rights_0_thing 1 F_is_rights aNil (aCons (fVar 0) aNil)) (aCons (fCallK 0 1 gd_is_groups_0_thing 1 F_is_groups aNil (aCons (fVar 0) aNil)) aNil))) aNil)))) (tgName 3)
 (sIf (fOr (fNot (tst (fCall (gAll true) (aCons (fLc (iSeq (fVar 3)) (tgName 4) ttYes (fCall gIsi (aCons (fVar 4) (aCons (fC (.ty "bool")) aNil))) [4]) aNil)))) (tst (fOp gNe (fVar 3) (fVar 2))))
 (sRet (fC (.bl false)))
 sNext))
 (sRet (fOp gEq (fCall gRepr (aCons (fVar 0) aNil)) (fVar 1))))))
def F__law_told : Fn := bodyF ["_law_matter", "_law_kept", "_law_due", "_law_told_here", "_law_one"] b__law_told
def b__law_rights_amiss : Fs :=
 (sSeq (sPar 2 3 (aCons (fCallN 2 F__law_take (aCons (fVar 0) (aCons (fC (.int 5)) aNil))) (aCons (fCallN 2 F__law_take (aCons (fVar 0) (aCons (fC (.int 3)) aNil))) aNil)))
 (sSeq (sAsg (fOp gIx (fLst (aCons (fC (.str "wr")) (aCons (fC (.str "rr")) (aCons (fC (.str "R")) (aCons (fC (.str " r")) (aCons (fC (.str "r ")) (aCons (fC (.str "rwx")) (aCons (fC .non) (aCons (fC (.bl true)) (aCons (fC (.int 0)) (aCons (fLst (aCons (fC (.str "r")) aNil)) (aCons (fTup (aCons (fC (.str "r")) aNil)) (aCons (fC (.str "x")) (aCons (fC (.str "w r")) (aCons (fC (.str "-")) aNil))))))))))))))) (fCallN 2 F__law_take (aCons (fVar 0) (aCons (fC (.int 14)) aNil)))) (tgName 4))
 (sSeq (sIf (tst (fOp gEq (fVar 2) (fC (.int 0))))
 (sRet (fOp gAdd (fSl (fVar 1) pNone (pSome (fVar 3))) (fSl (fVar 1) (pSome (fOp gAdd (fVar 3) (fC (.int 1)))) pNone)))
 sNext)
 (sSeq (sIf (tst (fOp gEq (fVar 2) (fC (.int 1))))
 (sRet (fOp gAdd (fVar 1) (fSl (fVar 1) (pSome (fVar 3)) (pSome (fOp gAdd (fVar 3) (fC (.int 1)))))))
 sNext)
 (sSeq (sIf (tst (fOp gEq (fVar 2) (fC (.int 2))))
 (sRet (fCall gList (aCons (fVar 1) aNil)))
 sNext)
 (sRet (fOp gAdd (fOp gAdd (fSl (fVar 1) pNone (pSome (fVar 3))) (fTup (aCons (fVar 4) aNil))) (fSl (fVar 1) (pSome (fOp gAdd (fVar 3) (fC (.int 1)))) pNone))))))))
def F__law_rights_amiss : Fn := bodyF ["_law_purse_here", "_law_grants", "_law_way", "_law_at", "_law_bad"] b__law_rights_amiss
def b__law_odd : Fs :=
 (sSeq (sAsg (fLst (aCons (fC .non) (aCons (fC (.bl true)) (aCons (fC (.int 0)) (aCons (fC (.int 7)) (aCons (fC (.str "")) (aCons (fC (.str "rw")) (aCons (fLst aNil) (aCons fDnew (aCons (fTup aNil) (aCons (fTup (aCons (fC (.str "")) aNil)) (aCons (fTup (aCons (fC (.str "rw")) (aCons (fC (.str "r")) aNil))) (aCons (fLst (aCons (fC (.str "rw")) (aCons (fC (.str "r")) (aCons (fC (.str "r")) aNil)))) (aCons (fTup (aCons (fLst aNil) aNil)) (aCons (fTup (aCons (fTup (aCons (fC (.str "a")) (aCons (fTup aNil) aNil))) aNil)) (aCons (fC (.str "A b")) aNil)))))))))))))))) (tgName 1))
 (sRet (fOp gIx (fVar 1) (fCallN 2 F__law_take (aCons (fVar 0) (aCons (fC (.int 15)) aNil))))))
def F__law_odd : Fn := bodyF ["_law_purse_here", "_law_some"] b__law_odd
def b__law_groups_amiss : Fs :=
 (sSeq (sPar 2 3 (aCons (fCallN 2 F__law_take (aCons (fVar 0) (aCons (fC (.int 9)) aNil))) (aCons (fCallN 1 F__law_odd (aCons (fVar 0) aNil)) aNil)))
 (sSeq (sPar 4 5 (aCons (fCallN 2 F__law_take (aCons (fVar 0) (aCons (fCall gMax (aCons (fC (.int 1)) (aCons (fCall gLen (aCons (fVar 1) aNil)) aNil))) aNil))) (aCons (fCallN 2 F__law_take (aCons (fVar 0) (aCons (fCall gMax (aCons (fC (.int 1)) (aCons (fCall gLen (aCons (fVar 1) aNil)) aNil))) aNil))) aNil)))
 (sSeq (sIf (fOr (tst (fOp gEq (fVar 2) (fC (.int 0)))) (tst (fOp gEq (fVar 1) (fTup aNil))))
 (sRet (fOp gIx (fLst (aCons (fCall gList (aCons (fVar 1) aNil)) (aCons (fVar 3) (aCons (fOp gAdd (fVar 1) (fTup (aCons (fVar 3) aNil))) (aCons (fOp gAdd (fVar 1) (fTup (aCons (fTup (aCons (fC (.str "zz")) (aCons (fLst (aCons (fC (.str "a")) aNil)) aNil))) aNil))) aNil))))) (fCallN 2 F__law_take (aCons (fVar 0) (aCons (fC (.int 4)) aNil)))))
 sNext)
 (sSeq (sAsg (fOp gIx (fVar 1) (fVar 4)) (tgTup 2 (tgCons (tgName 6) (tgCons (tgName 7) tgNil))))
 (sSeq (sAsg (fLst (aCons (fRev (fVar 7)) (aCons (fOp gAdd (fVar 7) (fSl (fVar 7) pNone (pSome (fC (.int 1))))) (aCons (fCall gList (aCons (fVar 7) aNil)) (aCons (fOp gAdd (fVar 7) (fTup (aCons (fC (.str "A")) aNil))) (aCons (fOp gAdd (fVar 7) (fTup (aCons (fVar 3) aNil))) (aCons (fC .non) aNil))))))) (tgName 8))
 (sSeq (sIf (tst (fOp gEq (fVar 2) (fC (.int 1))))
 (sRet (fOp gAdd (fOp gAdd (fSl (fVar 1) pNone (pSome (fVar 4))) (fSl (fVar 1) (pSome (fVar 4)) (pSome (fOp gAdd (fVar 4) (fC (.int 1)))))) (fSl (fVar 1) (pSome (fVar 4)) pNone)))
 sNext)
 (sSeq (sIf (tst (fOp gEq (fVar 2) (fC (.int 2))))
 (sRet (fOp gAdd (fOp gAdd (fSl (fVar 1) pNone (pSome (fVar 4))) (fSl (fVar 1) (pSome (fVar 5)) (pSome (fOp gAdd (fVar 5) (fC (.int 1)))))) (fSl (fVar 1) (pSome (fOp gAdd (fVar 4) (fC (.int 1)))) pNone)))
 sNext)
 (sSeq (sIf (tst (fOp gEq (fVar 2) (fC (.int 3))))
 (sRet (fRev (fVar 1)))
 sNext)
 (sSeq (sIf (tst (fOp gEq (fVar 2) (fC (.int 4))))
 (sSeq (sAsg (fOp gIx (fLst (aCons (fTup (aCons (fVar 6) aNil)) (aCons (fTup (aCons (fVar 6) (aCons (fVar 7) (aCons (fTup aNil) aNil)))) (aCons (fLst (aCons (fVar 6) (aCons (fVar 7) aNil))) (aCons (fVar 6) aNil))))) (fCallN 2 F__law_take (aCons (fVar 0) (aCons (fC (.int 4)) aNil)))) (tgName 9))
 (sRet (fOp gAdd (fOp gAdd (fSl (fVar 1) pNone (pSome (fVar 4))) (fTup (aCons (fVar 9) aNil))) (fSl (fVar 1) (pSome (fOp gAdd (fVar 4) (fC (.int 1)))) pNone))))
 sNext)
 (sSeq (sIf (tst (fOp gEq (fVar 2) (fC (.int 5))))
 (sRet (fOp gAdd (fOp gAdd (fSl (fVar 1) pNone (pSome (fVar 4))) (fTup (aCons (fTup (aCons (fVar 3) (aCons (fVar 7) aNil))) aNil))) (fSl (fVar 1) (pSome (fOp gAdd (fVar 4) (fC (.int 1)))) pNone)))
 sNext)
 (sSeq (sIf (tst (fOp gEq (fVar 2) (fC (.int 6))))
 (sRet (fOp gAdd (fOp gAdd (fSl (fVar 1) pNone (pSome (fVar 4))) (fTup (aCons (fTup (aCons (fOp gAdd (fVar 6) (fC (.str "Z"))) (aCons (fVar 7) aNil))) aNil))) (fSl (fVar 1) (pSome (fOp gAdd (fVar 4) (fC (.int 1)))) pNone)))
 sNext)
 (sRet (fOp gAdd (fOp gAdd (fSl (fVar 1) pNone (pSome (fVar 4))) (fTup (aCons (fTup (aCons (fVar 6) (aCons (fOp gIx (fVar 8) (fCallN 2 F__law_take (aCons (fVar 0) (aCons (fC (.int 6)) aNil)))) aNil))) aNil))) (fSl (fVar 1) (pSome (fOp gAdd (fVar 4) (fC (.int 1)))) pNone))))))))))))))
def F__law_groups_amiss : Fn := bodyF ["_law_purse_here", "_law_folk_here", "_law_way", "_law_odd_here", "_law_at", "_law_to", "_law_clan", "_law_persons", "_law_bent", "_law_one"] b__law_groups_amiss
def b_law : Fs :=
 (sSeq (sFor (jRng1 (aCons (fCall gMax (aCons (fC (.int 2)) (aCons (fCall gMin (aCons (fCall gLen (aCons (fVar 0) aNil)) (aCons (fC (.int 8)) aNil))) aNil))) aNil)) (tgName 1)
 (sSeq (sAsg (fCallN 2 F__law_purse (aCons (fVar 0) (aCons (fVar 1) aNil))) (tgName 2))
 (sSeq (sAsg (fCall gTuple (aCons (fLc (jRng1 (aCons (fC (.int 3)) aNil)) (tgName 4) ttYes (fOp gIx (fLst (aCons (fC (.str "")) (aCons (fC (.str "r")) (aCons (fC (.str "w")) (aCons (fC (.str "rw")) aNil))))) (fCallN 2 F__law_take (aCons (fVar 2) (aCons (fC (.int 4)) aNil)))) [4]) aNil)) (tgName 3))
 (sSeq (sAsg (fCallN 1 F__law_folk (aCons (fVar 2) aNil)) (tgName 5))
 (sSeq (sFor (jRng1 (aCons (fC (.int 6)) aNil)) (tgName 4)
 (sSeq (sAsg (fLst (aCons (fVar 3) (aCons (fVar 5) (aCons (fCallN 2 F__law_rights_amiss (aCons (fVar 2) (aCons (fVar 3) aNil))) (aCons (fCallN 2 F__law_groups_amiss (aCons (fVar 2) (aCons (fVar 5) aNil))) (aCons (fCallN 1 F__law_odd (aCons (fVar 2) aNil)) aNil)))))) (tgName 6))
 (sIf (fNot (tst (fCall (gAll true) (aCons (fLc (iSeq (fOp gAdd (fVar 6) (fLst (aCons (fVar 3) (aCons (fVar 5) aNil))))) (tgName 7) ttYes (fCallN 1 F__law_told (aCons (fVar 7) aNil)) [7]) aNil))))
 (sRet (fC (.bl false)))
 sNext)))
 (sIf (fOr (fNot (tst (fCallN 1 F__law_told (aCons (fSl (fVar 5) pNone (pSome (fC (.int 8)))) aNil)))) (fOr (fNot (tst (fCallN 1 F__law_told (aCons (fTup (aCons (fTup (aCons (fC (.str "a")) (aCons (fTup aNil) aNil))) (aCons (fTup (aCons (fC (.str "b")) (aCons (fTup (aCons (fC (.str "a")) (aCons (fC (.str "b")) aNil))) aNil))) aNil))) aNil)))) (fNot (tst (fCallN 1 F__law_told (aCons (fTup aNil) aNil))))))
 (sRet (fC (.bl false)))
 sNext))))))
 (sSeq (sAsg (fCall gTuple (aCons (fLc (jRng1 (aCons (fC (.int 30)) aNil)) (tgName 1) ttYes (fOp gAdd (fOp gIx (fC (.str "abcdef")) (fOp gFdiv (fVar 1) (fC (.int 5)))) (fOp gIx (fC (.str "abcde")) (fOp gMod (fVar 1) (fC (.int 5))))) [1]) aNil)) (tgName 8))
 (sRet (fAndV (fCallN 1 F__law_told (aCons (fTup (aCons (fTup (aCons (fC (.str "one")) (aCons (fVar 8) aNil))) aNil)) aNil)) (fCallN 1 F__law_told (aCons (fTup (aCons (fTup (aCons (fC (.str "one")) (aCons (fOp gAdd (fSl (fVar 8) pNone (pSome (fC (.int 28)))) (fNegT (fVar 8) pNone (pSome (fC (.int 27))))) aNil))) aNil)) aNil))))))
def F_law : Fn := bodyF ["_law_script", "_law_k", "_law_purse_here", "_law_grants", "_law_turn", "_law_folk_here", "_law_some", "_law_matter", "_law_crowd"] b_law
end Fz
end
namespace Fz
open PySem PySem.Spec PyProof.Rows L2 Dz
theorem ob_eq (s : PySem.W.SharedT) : ob s = hk.obs s.abs := obsL_eq (HandSHeadRun.getT_eq s)
end Fz
namespace PM
abbrev Part := Int × Int × Int
abbrev Cell := Int × Int

def each1 (p : Part) : List Cell := (List.range p.2.2.toNat).map fun (k : Nat) => (p.1, p.2.1 + (k : Int))
def each (ps : List Part) : List Cell := ps.flatMap each1
def glue (acc : List Part) (p : Part) : List Part :=
  match acc.getLast? with
  | some q => if q.1 = p.1 ∧ q.2.1 + q.2.2 = p.2.1 then acc.dropLast ++ [(p.1, q.2.1, q.2.2 + p.2.2)] else acc ++ [p]
  | none => acc ++ [p]
def asOne (ps : List Part) : List Part := ps.foldl glue []
def aheadOf : List Part → Int → List Part
  | [], _ => []
  | p :: r, n => (if 0 < n then [(p.1, p.2.1, if n < p.2.2 then n else p.2.2)] else []) ++ aheadOf r (n - p.2.2)
def fromOn : List Part → Int → List Part
  | [], _ => []
  | p :: r, n => (if n < p.2.2 then [(p.1, p.2.1 + (if n > 0 then n else 0), p.2.2 - (if n > 0 then n else 0))] else []) ++ fromOn r (n - p.2.2)
def sizeOf (ps : List Part) : Int := (ps.map (·.2.2)).sum
def put (ps more : List Part) (n : Int) : List Part := asOne (aheadOf ps n ++ more ++ fromOn ps (n + sizeOf more))
end PM
namespace PM
/-- the cells of parts, by what each piece holds -/
def vals (look : Int → List Int) (ps : List Part) : List Int := ps.flatMap fun p => ((look p.1).drop p.2.1.toNat).take p.2.2.toNat
end PM
namespace Fz
open PySem L2 Dz

section
variable {P : Program} {w : World} {K : PySem.W.Frag} {mg : Str → Option Value} {base : Heap}
theorem fn__law_purse (M : Md K w mg) {fd : FuncData} (F : FunD K "_law_purse" "_law_purse" (defArgs s_law_purse) (defBody s_law_purse) (defScope s_law_purse) [] [] (He.ga K "_law_purse") fd) : FnG P w K mg base (L2.CX P w) 1 (He.ga K "_law_purse") fd ["_law_script", "_law_k"] (spF K F__law_purse 2) := by

  refine fn_deep (k := 0) F sc_law_purse (fun cdv A outer sh H E hr => ?_)
  unfold b__law_purse
  exact (ss_cons (s_set (i := 2) sc_law_purse.nd rfl (Or.inl rfl) (d_ix rfl hr.u65 (d_op (o_add rfl) (d_sl rfl (d_var (pv 0)) (p_some (d_var (pv 1))) (p_some (d_op (o_add rfl) (d_var (pv 1)) d_int))) (d_lst (a_cons d_int a_nil))) d_int (fun _ _ => rfl) (fun _ _ => rfl)) g0_keep)
 (ss_cons (s_if (PW.pt (t_or (t_cmp o_ge (gCmp_b _ _) (d_var (pv 2)) (d_op o_pow d_int d_int) (nomark _)) (t_or1 (t_cmp o_lt (gCmp_b _ _) (d_var (pv 2)) d_int (nomark _)))))
 (ss_one (s_ret (d_lst (a_cons (d_callB (c_max rfl rfl) (by rfl) M.z_max bt_max (a_cons (d_var (pv 2)) (a_cons (d_op o_sub (d_neg d_int) (d_var (pv 2))) a_nil))) (a_cons d_int a_nil)))))
 ss_nil)
 (ss_one (s_ret (d_lst (a_cons d_int (a_cons (d_op (o_add rfl) d_int (d_op o_mod (d_op (o_add rfl) (d_op (o_mul rfl) (d_var (pv 2)) d_int) (d_op (o_mul rfl) (d_op (o_mul rfl) (d_op (o_add rfl) (d_var (pv 1)) d_int) d_int) (d_op (o_add rfl) (d_var (pv 1)) d_int))) d_int)) a_nil)))))))
theorem ok__law_purse (M : Md K w mg) : Df P w K mg base (L2.CX P w) 1 "_law_purse" ["_law_script", "_law_k"] (spF K F__law_purse 2) := by
  obtain ⟨fd, F⟩ := M.d_law_purse
  exact ⟨⟨fd, fn__law_purse M F, F.bindsN fun _ _ _ _ _ _ us hl => match us, hl with | [_, _], _ => rfl⟩, M.g_law_purse, F.kp⟩
theorem fn__law_take (M : Md K w mg) {fd : FuncData} (F : FunD K "_law_take" "_law_take" (defArgs s_law_take) (defBody s_law_take) (defScope s_law_take) [] [] (He.ga K "_law_take") fd) : FnG P w K mg base (L2.CX P w) 1 (He.ga K "_law_take") fd ["_law_purse_here", "_law_many"] (spF K F__law_take 2) := by

  refine fn_deep (k := 0) F sc_law_take (fun cdv A outer sh H E hr => ?_)
  unfold b__law_take
  exact (ss_cons (s_if (t_cmp (o_eq rfl hr.u65) (gEqv_b false) (d_ix rfl hr.u65 (d_var (pv 0)) d_int (fun _ _ => rfl) (fun _ _ => rfl)) d_int (nomark _))
 (ss_cons (s_set (i := 2) sc_law_take.nd rfl (Or.inl rfl) (d_op o_mod (d_ix rfl hr.u65 (d_var (pv 0)) d_int (fun _ _ => rfl) (fun _ _ => rfl)) (d_var (pv 1))) g0_keep)
 (ss_cons (s_setix hr.u65 (d_var (pv 0)) d_int (d_op o_fdiv (d_ix rfl hr.u65 (d_var (pv 0)) d_int (fun _ _ => rfl) (fun _ _ => rfl)) (d_var (pv 1))) rfl)
 (ss_one (s_ret (d_var (pv 2))))))
 ss_nil)
 (ss_cons (s_setix hr.u65 (d_var (pv 0)) d_int (d_op (o_add rfl) d_int (d_op o_mod (d_op (o_add rfl) (d_op (o_mul rfl) (d_ix rfl hr.u65 (d_var (pv 0)) d_int (fun _ _ => rfl) (fun _ _ => rfl)) d_int) d_int) d_int)) rfl)
 (ss_one (s_ret (d_op o_mod (d_op o_fdiv (d_op o_mod (d_op (o_mul rfl) (d_ix rfl hr.u65 (d_var (pv 0)) d_int (fun _ _ => rfl) (fun _ _ => rfl)) d_int) d_int) d_int) (d_var (pv 1)))))))
theorem ok__law_take (M : Md K w mg) : Df P w K mg base (L2.CX P w) 1 "_law_take" ["_law_purse_here", "_law_many"] (spF K F__law_take 2) := by
  obtain ⟨fd, F⟩ := M.d_law_take
  exact ⟨⟨fd, fn__law_take M F, F.bindsN fun _ _ _ _ _ _ us hl => match us, hl with | [_, _], _ => rfl⟩, M.g_law_take, F.kp⟩
theorem fn__law_words (M : Md K w mg) {fd : FuncData} (F : FunD K "_law_words" "_law_words" (defArgs s_law_words) (defBody s_law_words) (defScope s_law_words) [] [] (He.ga K "_law_words") fd) : FnG P w K mg base (L2.CX P w) 2 (He.ga K "_law_words") fd ["_law_purse_here", "_law_many"] (spF K F__law_words 2) := by
  have D__law_take := ok__law_take (P := P) (base := base) M
  refine fn_deep (k := 1) F sc_law_words (fun cdv A outer sh H E hr => ?_)
  unfold b__law_words
  exact (ss_cons (s_asg (d_tup (a_cons (d_ix rfl hr.u65 (d_lst (a_cons d_str (a_cons d_str (a_cons d_str (a_cons d_str a_nil))))) (d_call rfl D__law_take (hr.mono (by decide)) (by rfl) (passD rfl rfl rfl rfl) (a_cons (d_var (pv 0)) (a_cons d_int a_nil))) (fun _ _ => rfl) (fun _ _ => rfl)) (a_cons (d_call rfl D__law_take (hr.mono (by decide)) (by rfl) (passD rfl rfl rfl rfl) (a_cons (d_var (pv 0)) (a_cons d_int a_nil))) a_nil))) (g_tup (n := 2) rfl rfl (g_cons (g_name (pg_name (i := 2) sc_law_words.nd rfl (Or.inr rfl)) g0_keep) (g_cons (g_name (pg_name (i := 3) sc_law_words.nd rfl (Or.inr rfl)) g0_keep) g_nil))))
 (ss_cons (s_set (i := 4) sc_law_words.nd rfl (Or.inl rfl) (d_callB (c_sorted2 rfl rfl hr.units) (by rfl) M.z_sorted bt_sorted (a_cons (d_lc (own := [("_law_turn", 5)]) (js := [5]) rfl sc_law_words.nd (i_rng1 (by rfl) M.z_range (a_cons (d_var (pv 1)) a_nil)) (blkOk_by (own := [("_law_turn", 5)]) (N := ["_law_purse_here", "_law_many", "_law_stem", "_law_at", "_law_letters", "_law_turn", "_law_letter"]) (sc := defScope s_law_words) (by decide +kernel)) rfl g0_keep (fun _ _ _ _ _ => (g_name (pg_name (i := 5) sc_law_words.nd rfl (Or.inl rfl)) g0_keep)) (fun _ _ _ _ _ => ts_nil) (fun _ _ _ _ _ => (d_ix rfl hr.u65 d_str (d_op o_mod (d_op (o_add rfl) (d_var (pv 3)) (d_op (o_mul rfl) d_int (d_var (pv 5)))) d_int) (fun _ _ => rfl) (fun _ _ => rfl)))) a_nil)) g0_keep)
 (ss_one (s_ret (d_lc (own := [("_law_letter", 6)]) (js := [6]) rfl sc_law_words.nd (i_seq rfl (d_var (pv 4))) (blkOk_by (own := [("_law_letter", 6)]) (N := ["_law_purse_here", "_law_many", "_law_stem", "_law_at", "_law_letters", "_law_turn", "_law_letter"]) (sc := defScope s_law_words) (by decide +kernel)) rfl g0_keep (fun _ _ _ _ _ => (g_name (pg_name (i := 6) sc_law_words.nd rfl (Or.inl rfl)) g0_keep)) (fun _ _ _ _ _ => ts_nil) (fun _ _ _ _ _ => (d_op (o_add rfl) (d_var (pv 2)) (d_var (pv 6)))))))))
theorem ok__law_words (M : Md K w mg) : Df P w K mg base (L2.CX P w) 2 "_law_words" ["_law_purse_here", "_law_many"] (spF K F__law_words 2) := by
  obtain ⟨fd, F⟩ := M.d_law_words
  exact ⟨⟨fd, fn__law_words M F, F.bindsN fun _ _ _ _ _ _ us hl => match us, hl with | [_, _], _ => rfl⟩, M.g_law_words, F.kp⟩
theorem fn__law_folk (M : Md K w mg) {fd : FuncData} (F : FunD K "_law_folk" "_law_folk" (defArgs s_law_folk) (defBody s_law_folk) (defScope s_law_folk) [] [] (He.ga K "_law_folk") fd) : FnG P w K mg base (L2.CX P w) 3 (He.ga K "_law_folk") fd ["_law_purse_here"] (spF K F__law_folk 1) := by
  have D__law_words := ok__law_words (P := P) (base := base) M
  have D__law_take := ok__law_take (P := P) (base := base) M
  refine fn_deep (k := 2) F sc_law_folk (fun cdv A outer sh H E hr => ?_)
  unfold b__law_folk
  exact (ss_cons (s_set (i := 1) sc_law_folk.nd rfl (Or.inl rfl) (d_lst a_nil) g0_keep)
 (ss_cons (s_for (passes_of rfl) rfl (i_seq rfl (d_call rfl D__law_words (hr.mono (by decide)) (by rfl) (passD rfl rfl rfl rfl) (a_cons (d_var (pv 0)) (a_cons (d_ix rfl hr.u65 (d_lst (a_cons d_int (a_cons d_int (a_cons d_int (a_cons d_int (a_cons d_int (a_cons d_int a_nil))))))) (d_call rfl D__law_take (hr.mono (by decide)) (by rfl) (passD rfl rfl rfl rfl) (a_cons (d_var (pv 0)) (a_cons d_int a_nil))) (fun _ _ => rfl) (fun _ _ => rfl)) a_nil)))) (g_name (pg_name (i := 2) sc_law_folk.nd rfl (Or.inl rfl)) g0_keep)
 (ss_one (s_expr (d_bm rfl PySem.F.plainAttrs_list PySem.F.slot_list_append PySem.F.type_list_append m_append (d_var (pv 1)) (a_cons (d_tup (a_cons (d_var (pv 2)) (a_cons (d_callTy (c_tuple rfl) (by rfl) M.z_tuple bt_tuple (a_cons (d_call rfl D__law_words (hr.mono (by decide)) (by rfl) (passD rfl rfl rfl rfl) (a_cons (d_var (pv 0)) (a_cons (d_call rfl D__law_take (hr.mono (by decide)) (by rfl) (passD rfl rfl rfl rfl) (a_cons (d_var (pv 0)) (a_cons d_int a_nil))) a_nil))) a_nil)) a_nil))) a_nil)))))
 (ss_one (s_ret (d_callTy (c_tuple rfl) (by rfl) M.z_tuple bt_tuple (a_cons (d_var (pv 1)) a_nil))))))
theorem ok__law_folk (M : Md K w mg) : Df P w K mg base (L2.CX P w) 3 "_law_folk" ["_law_purse_here"] (spF K F__law_folk 1) := by
  obtain ⟨fd, F⟩ := M.d_law_folk
  exact ⟨⟨fd, fn__law_folk M F, F.bindsN fun _ _ _ _ _ _ us hl => match us, hl with | [_], _ => rfl⟩, M.g_law_folk, F.kp⟩
theorem fn__law_are_rights (M : Md K w mg) {fd : FuncData} (F : FunD K "_law_are_rights" "_law_are_rights" (defArgs s_law_are_rights) (defBody s_law_are_rights) (defScope s_law_are_rights) [] [] (He.ga K "_law_are_rights") fd) : FnG P w K mg base (L2.CX P w) 1 (He.ga K "_law_are_rights") fd ["_law_matter"] (spF K F__law_are_rights 1) := by

  refine fn_deep (k := 0) F sc_law_are_rights (fun cdv A outer sh H E hr => ?_)
  unfold b__law_are_rights
  exact (ss_cons (s_if (PW.pt (t_or (t_not (t_truth rfl (d_callB (c_isi rfl) (by rfl) M.z_isinstance bt_isinstance (a_cons (d_var (pv 0)) (a_cons (d_c (pe_bltn (v := .ty "tuple") (by rfl) M.z_tuple bt_tuple rfl) (fun _ _ => .ty _)) a_nil))) (by intro _; rfl))) (t_or1 (t_cmp (o_ne rfl hr.u65) (gEqv_b true) (d_callB (c_len rfl) (by rfl) M.z_len bt_len (a_cons (d_var (pv 0)) a_nil)) d_int (nomark _)))))
 (ss_one (s_ret d_bl))
 ss_nil)
 (ss_one (s_ret (d_callB (c_all rfl rfl) (by rfl) M.z_all bt_all (a_cons (d_lc (own := [("_law_one", 1)]) (js := [1]) rfl sc_law_are_rights.nd (i_seq rfl (d_var (pv 0))) (blkOk_by (own := [("_law_one", 1)]) (N := ["_law_matter", "_law_one"]) (sc := defScope s_law_are_rights) (by decide +kernel)) rfl g0_keep (fun _ _ _ _ _ => (g_name (pg_name (i := 1) sc_law_are_rights.nd rfl (Or.inl rfl)) g0_keep)) (fun _ _ _ _ _ => ts_nil) (fun _ _ _ _ _ => (d_and rfl (d_callB (c_isi rfl) (by rfl) M.z_isinstance bt_isinstance (a_cons (d_var (pv 1)) (a_cons (d_c (pe_bltn (v := .ty "str") (by rfl) M.z_str bt_str rfl) (fun _ _ => .ty _)) a_nil))) (d_one (d_in rfl hr.u65 (d_var (pv 1)) (d_lst (a_cons d_str (a_cons d_str (a_cons d_str (a_cons d_str a_nil))))) (by rfl)))))) a_nil)))))
theorem ok__law_are_rights (M : Md K w mg) : Df P w K mg base (L2.CX P w) 1 "_law_are_rights" ["_law_matter"] (spF K F__law_are_rights 1) := by
  obtain ⟨fd, F⟩ := M.d_law_are_rights
  exact ⟨⟨fd, fn__law_are_rights M F, F.bindsN fun _ _ _ _ _ _ us hl => match us, hl with | [_], _ => rfl⟩, M.g_law_are_rights, F.kp⟩
theorem fn__law_is_word (M : Md K w mg) {fd : FuncData} (F : FunD K "_law_is_word" "_law_is_word" (defArgs s_law_is_word) (defBody s_law_is_word) (defScope s_law_is_word) [] [] (He.ga K "_law_is_word") fd) : FnG P w K mg base (L2.CX P w) 1 (He.ga K "_law_is_word") fd ["_law_matter"] (spF K F__law_is_word 1) := by

  refine fn_deep (k := 0) F sc_law_is_word (fun cdv A outer sh H E hr => ?_)
  unfold b__law_is_word
  exact (ss_cons (s_if (PW.pt (t_or (t_not (t_truth rfl (d_callB (c_isi rfl) (by rfl) M.z_isinstance bt_isinstance (a_cons (d_var (pv 0)) (a_cons (d_c (pe_bltn (v := .ty "str") (by rfl) M.z_str bt_str rfl) (fun _ _ => .ty _)) a_nil))) (by intro _; rfl))) (t_or1 (t_not (t_chain o_le o_le (gCmp_b _ _) d_int (d_callB (c_len rfl) (by rfl) M.z_len bt_len (a_cons (d_var (pv 0)) a_nil)) d_int)))))
 (ss_one (s_ret d_bl))
 ss_nil)
 (ss_one (s_ret (d_callB (c_all rfl rfl) (by rfl) M.z_all bt_all (a_cons (d_lc (own := [("_law_sign", 1)]) (js := [1]) rfl sc_law_is_word.nd (i_seq rfl (d_var (pv 0))) (blkOk_by (own := [("_law_sign", 1)]) (N := ["_law_matter", "_law_sign"]) (sc := defScope s_law_is_word) (by decide +kernel)) rfl g0_keep (fun _ _ _ _ _ => (g_name (pg_name (i := 1) sc_law_is_word.nd rfl (Or.inl rfl)) g0_keep)) (fun _ _ _ _ _ => ts_nil) (fun _ _ _ _ _ => (d_in rfl hr.u65 (d_var (pv 1)) d_str (by rfl)))) a_nil)))))
theorem ok__law_is_word (M : Md K w mg) : Df P w K mg base (L2.CX P w) 1 "_law_is_word" ["_law_matter"] (spF K F__law_is_word 1) := by
  obtain ⟨fd, F⟩ := M.d_law_is_word
  exact ⟨⟨fd, fn__law_is_word M F, F.bindsN fun _ _ _ _ _ _ us hl => match us, hl with | [_], _ => rfl⟩, M.g_law_is_word, F.kp⟩
theorem fn__law_are_groups (M : Md K w mg) {fd : FuncData} (F : FunD K "_law_are_groups" "_law_are_groups" (defArgs s_law_are_groups) (defBody s_law_are_groups) (defScope s_law_are_groups) [] [] (He.ga K "_law_are_groups") fd) : FnG P w K mg base (L2.CX P w) 2 (He.ga K "_law_are_groups") fd ["_law_matter"] (spF K F__law_are_groups 1) := by
  have D__law_is_word := ok__law_is_word (P := P) (base := base) M
  refine fn_deep (k := 1) F sc_law_are_groups (fun cdv A outer sh H E hr => ?_)
  unfold b__law_are_groups
  exact (ss_cons (s_if (PW.pt (t_or (t_not (t_truth rfl (d_callB (c_isi rfl) (by rfl) M.z_isinstance bt_isinstance (a_cons (d_var (pv 0)) (a_cons (d_c (pe_bltn (v := .ty "tuple") (by rfl) M.z_tuple bt_tuple rfl) (fun _ _ => .ty _)) a_nil))) (by intro _; rfl))) (t_or1 (t_cmp o_gt (gCmp_b _ _) (d_callB (c_len rfl) (by rfl) M.z_len bt_len (a_cons (d_var (pv 0)) a_nil)) d_int (nomark _)))))
 (ss_one (s_ret d_bl))
 ss_nil)
 (ss_cons (s_set (i := 1) sc_law_are_groups.nd rfl (Or.inl rfl) d_str g0_keep)
 (ss_cons (s_for (passes_of rfl) rfl (i_seq rfl (d_var (pv 0))) (g_name (pg_name (i := 2) sc_law_are_groups.nd rfl (Or.inl rfl)) g0_keep)
 (ss_cons (s_if (PW.pt (t_or (t_not (t_truth rfl (d_callB (c_isi rfl) (by rfl) M.z_isinstance bt_isinstance (a_cons (d_var (pv 2)) (a_cons (d_c (pe_bltn (v := .ty "tuple") (by rfl) M.z_tuple bt_tuple rfl) (fun _ _ => .ty _)) a_nil))) (by intro _; rfl))) (t_or (t_cmp (o_ne rfl hr.u65) (gEqv_b true) (d_callB (c_len rfl) (by rfl) M.z_len bt_len (a_cons (d_var (pv 2)) a_nil)) d_int (nomark _)) (t_or (t_not (t_truth rfl (d_call rfl D__law_is_word (hr.mono (by decide)) (by rfl) (passD rfl rfl rfl rfl) (a_cons (d_ix rfl hr.u65 (d_var (pv 2)) d_int (fun _ _ => rfl) (fun _ _ => rfl)) a_nil)) (by intro _; rfl))) (t_or1 (t_not (t_truth rfl (d_callB (c_isi rfl) (by rfl) M.z_isinstance bt_isinstance (a_cons (d_ix rfl hr.u65 (d_var (pv 2)) d_int (fun _ _ => rfl) (fun _ _ => rfl)) (a_cons (d_c (pe_bltn (v := .ty "tuple") (by rfl) M.z_tuple bt_tuple rfl) (fun _ _ => .ty _)) a_nil))) (by intro _; rfl))))))))
 (ss_one (s_ret d_bl))
 ss_nil)
 (ss_cons (s_if (PW.pt (t_or (t_cmp o_le (gCmp_b _ _) (d_ix rfl hr.u65 (d_var (pv 2)) d_int (fun _ _ => rfl) (fun _ _ => rfl)) (d_var (pv 1)) (nomark _)) (t_or1 (t_not (t_truth rfl (d_callB (c_all rfl rfl) (by rfl) M.z_all bt_all (a_cons (d_lc (own := [("_law_person", 3)]) (js := [3]) rfl sc_law_are_groups.nd (i_seq rfl (d_ix rfl hr.u65 (d_var (pv 2)) d_int (fun _ _ => rfl) (fun _ _ => rfl))) (blkOk_by (own := [("_law_person", 3)]) (N := ["_law_matter", "_law_ahead", "_law_one", "_law_person"]) (sc := defScope s_law_are_groups) (by decide +kernel)) rfl g0_keep (fun _ _ _ _ _ => (g_name (pg_name (i := 3) sc_law_are_groups.nd rfl (Or.inl rfl)) g0_keep)) (fun _ _ _ _ _ => ts_nil) (fun _ _ _ _ _ => (d_call rfl D__law_is_word (hr.mono (by decide)) (by rfl) passN (a_cons (d_var (pv 3)) a_nil)))) a_nil)) (by intro _; rfl))))))
 (ss_one (s_ret d_bl))
 ss_nil)
 (ss_cons (s_if (t_cmp (o_ne rfl hr.u65) (gEqv_b true) (d_callTy (c_list rfl rfl) (by rfl) M.z_list bt_list (a_cons (d_ix rfl hr.u65 (d_var (pv 2)) d_int (fun _ _ => rfl) (fun _ _ => rfl)) a_nil)) (d_sset rfl rfl (by rfl) M.z_sorted bt_sorted (by rfl) M.z_set bt_set (a_cons (d_ix rfl hr.u65 (d_var (pv 2)) d_int (fun _ _ => rfl) (fun _ _ => rfl)) a_nil)) (nomark _))
 (ss_one (s_ret d_bl))
 ss_nil)
 (ss_one (s_set (i := 1) sc_law_are_groups.nd rfl (Or.inl rfl) (d_ix rfl hr.u65 (d_var (pv 2)) d_int (fun _ _ => rfl) (fun _ _ => rfl)) g0_keep))))))
 (ss_one (s_ret d_bl)))))
theorem ok__law_are_groups (M : Md K w mg) : Df P w K mg base (L2.CX P w) 2 "_law_are_groups" ["_law_matter"] (spF K F__law_are_groups 1) := by
  obtain ⟨fd, F⟩ := M.d_law_are_groups
  exact ⟨⟨fd, fn__law_are_groups M F, F.bindsN fun _ _ _ _ _ _ us hl => match us, hl with | [_], _ => rfl⟩, M.g_law_are_groups, F.kp⟩
theorem fn_is_rights (M : Md K w mg) {fd : FuncData} (F : FunD K "is_rights" "is_rights" (defArgs s_is_rights) (defBody s_is_rights) (defScope s_is_rights) [] [] (He.ga K "is_rights") fd) : FnG P w K mg base (L2.CX P w) 1 (He.ga K "is_rights") fd ["thing"] (spF K F_is_rights 1) := by

  refine fn_deep (k := 0) F sc_is_rights (fun cdv A outer sh H E hr => ?_)
  unfold b_is_rights
  exact (ss_cons (s_if (PW.pt (t_or (t_not (t_truth rfl (d_callB (c_isi rfl) (by rfl) M.z_isinstance bt_isinstance (a_cons (d_var (pv 0)) (a_cons (d_c (pe_bltn (v := .ty "tuple") (by rfl) M.z_tuple bt_tuple rfl) (fun _ _ => .ty _)) a_nil))) (by intro _; rfl))) (t_or1 (t_cmp (o_ne rfl hr.u65) (gEqv_b true) (d_callB (c_len rfl) (by rfl) M.z_len bt_len (a_cons (d_var (pv 0)) a_nil)) d_int (nomark _)))))
 (ss_one (s_ret d_bl))
 ss_nil)
 (ss_one (s_ret (d_callB (c_all rfl rfl) (by rfl) M.z_all bt_all (a_cons (d_lc (own := [("one", 1)]) (js := [1]) rfl sc_is_rights.nd (i_seq rfl (d_var (pv 0))) (blkOk_by (own := [("one", 1)]) (N := ["thing", "one"]) (sc := defScope s_is_rights) (by decide +kernel)) rfl g0_keep (fun _ _ _ _ _ => (g_name (pg_name (i := 1) sc_is_rights.nd rfl (Or.inl rfl)) g0_keep)) (fun _ _ _ _ _ => ts_nil) (fun _ _ _ _ _ => (d_and rfl (d_callB (c_isi rfl) (by rfl) M.z_isinstance bt_isinstance (a_cons (d_var (pv 1)) (a_cons (d_c (pe_bltn (v := .ty "str") (by rfl) M.z_str bt_str rfl) (fun _ _ => .ty _)) a_nil))) (d_one (d_in rfl hr.u65 (d_var (pv 1)) (d_c (pe_glob (v := .ref (He.ga K "GIVEN_RIGHTS")) (by rfl) M.c_GIVEN_RIGHTS.1 rfl) (fun _ _ => M.c_GIVEN_RIGHTS.2 _ _)) (by rfl)))))) a_nil)))))
theorem ok_is_rights (M : Md K w mg) : Df P w K mg base (L2.CX P w) 1 "is_rights" ["thing"] (spF K F_is_rights 1) := by
  obtain ⟨fd, F⟩ := M.d_is_rights
  exact ⟨⟨fd, fn_is_rights M F, F.bindsN fun _ _ _ _ _ _ us hl => match us, hl with | [_], _ => rfl⟩, M.g_is_rights, F.kp⟩
theorem gr_is_rights_0_thing : GRel (gd_is_rights_0_thing (α := D)) (gd_is_rights_0_thing (α := V)) := perm_rel _
theorem dx_is_rights_0_thing (M : Md K w mg) : ∃ fd, Dx P w K mg base (L2.CX P w) 1 "is_rights" ["thing"] (spF K F_is_rights 1) fd ∧ ∃ g, KBn K fd ["thing"] 0 ["thing"] g (gd_is_rights_0_thing (α := V)) := by
  obtain ⟨fd, F⟩ := M.d_is_rights
  exact ⟨fd, ⟨fn_is_rights M F, M.g_is_rights, F.kp⟩, kbn_of F 0 ["thing"] (fun vs zs => gd_is_rights_0_thing vs zs) (fun r1 r2 => perm_vals _ r1 r2) fun kV doc pm an cdv ct us ws l1 l2 => match us, ws, l1, l2 with | [], [_], _, _ => rfl⟩
theorem fn_are_growing (M : Md K w mg) {fd : FuncData} (F : FunD K "are_growing" "are_growing" (defArgs s_are_growing) (defBody s_are_growing) (defScope s_are_growing) [] [] (He.ga K "are_growing") fd) : FnG P w K mg base (L2.CX P w) 1 (He.ga K "are_growing") fd ["row"] (spF K F_are_growing 1) := by

  refine fn_deep (k := 0) F sc_are_growing (fun cdv A outer sh H E hr => ?_)
  unfold b_are_growing
  exact (ss_one (s_ret (d_callB (c_all rfl rfl) (by rfl) M.z_all bt_all (a_cons (d_lc (own := [("place", 1)]) (js := [1]) rfl sc_are_growing.nd (i_rng2 (by rfl) M.z_range (a_cons d_int (a_cons (d_callB (c_len rfl) (by rfl) M.z_len bt_len (a_cons (d_var (pv 0)) a_nil)) a_nil))) (blkOk_by (own := [("place", 1)]) (N := ["row", "place"]) (sc := defScope s_are_growing) (by decide +kernel)) rfl g0_keep (fun _ _ _ _ _ => (g_name (pg_name (i := 1) sc_are_growing.nd rfl (Or.inl rfl)) g0_keep)) (fun _ _ _ _ _ => ts_nil) (fun _ _ _ _ _ => (d_cmp o_lt (d_ix rfl hr.u65 (d_var (pv 0)) (d_op o_sub (d_var (pv 1)) d_int) (fun _ _ => rfl) (fun _ _ => rfl)) (d_ix rfl hr.u65 (d_var (pv 0)) (d_var (pv 1)) (fun _ _ => rfl) (fun _ _ => rfl)) (nomark _)))) a_nil))))
theorem ok_are_growing (M : Md K w mg) : Df P w K mg base (L2.CX P w) 1 "are_growing" ["row"] (spF K F_are_growing 1) := by
  obtain ⟨fd, F⟩ := M.d_are_growing
  exact ⟨⟨fd, fn_are_growing M F, F.bindsN fun _ _ _ _ _ _ us hl => match us, hl with | [_], _ => rfl⟩, M.g_are_growing, F.kp⟩
theorem fn_is_word (M : Md K w mg) {fd : FuncData} (F : FunD K "is_word" "is_word" (defArgs s_is_word) (defBody s_is_word) (defScope s_is_word) [] [] (He.ga K "is_word") fd) : FnG P w K mg base (L2.CX P w) 1 (He.ga K "is_word") fd ["thing"] (spF K F_is_word 1) := by

  refine fn_deep (k := 0) F sc_is_word (fun cdv A outer sh H E hr => ?_)
  unfold b_is_word
  exact (ss_cons (s_if (PW.pt (t_or (t_not (t_truth rfl (d_callB (c_isi rfl) (by rfl) M.z_isinstance bt_isinstance (a_cons (d_var (pv 0)) (a_cons (d_c (pe_bltn (v := .ty "str") (by rfl) M.z_str bt_str rfl) (fun _ _ => .ty _)) a_nil))) (by intro _; rfl))) (t_or1 (t_not (t_chain o_le o_le (gCmp_b _ _) d_int (d_callB (c_len rfl) (by rfl) M.z_len bt_len (a_cons (d_var (pv 0)) a_nil)) (d_c (pe_gi (by rfl) M.c_MOST_LETTERS) (fun _ _ => .int _)))))))
 (ss_one (s_ret d_bl))
 ss_nil)
 (ss_one (s_ret (d_callB (c_all rfl rfl) (by rfl) M.z_all bt_all (a_cons (d_lc (own := [("sign", 1)]) (js := [1]) rfl sc_is_word.nd (i_seq rfl (d_var (pv 0))) (blkOk_by (own := [("sign", 1)]) (N := ["thing", "sign"]) (sc := defScope s_is_word) (by decide +kernel)) rfl g0_keep (fun _ _ _ _ _ => (g_name (pg_name (i := 1) sc_is_word.nd rfl (Or.inl rfl)) g0_keep)) (fun _ _ _ _ _ => ts_nil) (fun _ _ _ _ _ => (d_in rfl hr.u65 (d_var (pv 1)) (d_c (pe_gs (by rfl) M.c_LETTERS) (fun _ _ => .str _)) (by rfl)))) a_nil)))))
theorem ok_is_word (M : Md K w mg) : Df P w K mg base (L2.CX P w) 1 "is_word" ["thing"] (spF K F_is_word 1) := by
  obtain ⟨fd, F⟩ := M.d_is_word
  exact ⟨⟨fd, fn_is_word M F, F.bindsN fun _ _ _ _ _ _ us hl => match us, hl with | [_], _ => rfl⟩, M.g_is_word, F.kp⟩
theorem fn_are_users (M : Md K w mg) {fd : FuncData} (F : FunD K "are_users" "are_users" (defArgs s_are_users) (defBody s_are_users) (defScope s_are_users) [] [] (He.ga K "are_users") fd) : FnG P w K mg base (L2.CX P w) 2 (He.ga K "are_users") fd ["thing"] (spF K F_are_users 1) := by
  have D_is_word := ok_is_word (P := P) (base := base) M
  have D_are_growing := ok_are_growing (P := P) (base := base) M
  refine fn_deep (k := 1) F sc_are_users (fun cdv A outer sh H E hr => ?_)
  unfold b_are_users
  exact (ss_one (s_ret (d_and rfl (d_callB (c_isi rfl) (by rfl) M.z_isinstance bt_isinstance (a_cons (d_var (pv 0)) (a_cons (d_c (pe_bltn (v := .ty "tuple") (by rfl) M.z_tuple bt_tuple rfl) (fun _ _ => .ty _)) a_nil))) (d_and rfl (d_callB (c_all rfl rfl) (by rfl) M.z_all bt_all (a_cons (d_lc (own := [("user", 1)]) (js := [1]) rfl sc_are_users.nd (i_seq rfl (d_var (pv 0))) (blkOk_by (own := [("user", 1)]) (N := ["thing", "user"]) (sc := defScope s_are_users) (by decide +kernel)) rfl g0_keep (fun _ _ _ _ _ => (g_name (pg_name (i := 1) sc_are_users.nd rfl (Or.inl rfl)) g0_keep)) (fun _ _ _ _ _ => ts_nil) (fun _ _ _ _ _ => (d_call rfl D_is_word (hr.mono (by decide)) (by rfl) passN (a_cons (d_var (pv 1)) a_nil)))) a_nil)) (d_one (d_call rfl D_are_growing (hr.mono (by decide)) (by rfl) (passD rfl rfl rfl rfl) (a_cons (d_var (pv 0)) a_nil)))))))
theorem ok_are_users (M : Md K w mg) : Df P w K mg base (L2.CX P w) 2 "are_users" ["thing"] (spF K F_are_users 1) := by
  obtain ⟨fd, F⟩ := M.d_are_users
  exact ⟨⟨fd, fn_are_users M F, F.bindsN fun _ _ _ _ _ _ us hl => match us, hl with | [_], _ => rfl⟩, M.g_are_users, F.kp⟩
theorem fn_is_group (M : Md K w mg) {fd : FuncData} (F : FunD K "is_group" "is_group" (defArgs s_is_group) (defBody s_is_group) (defScope s_is_group) [] [] (He.ga K "is_group") fd) : FnG P w K mg base (L2.CX P w) 3 (He.ga K "is_group") fd ["thing"] (spF K F_is_group 1) := by
  have D_is_word := ok_is_word (P := P) (base := base) M
  have D_are_users := ok_are_users (P := P) (base := base) M
  refine fn_deep (k := 2) F sc_is_group (fun cdv A outer sh H E hr => ?_)
  unfold b_is_group
  exact (ss_one (s_ret (d_and rfl (d_callB (c_isi rfl) (by rfl) M.z_isinstance bt_isinstance (a_cons (d_var (pv 0)) (a_cons (d_c (pe_bltn (v := .ty "tuple") (by rfl) M.z_tuple bt_tuple rfl) (fun _ _ => .ty _)) a_nil))) (d_and rfl (d_cmp (o_eq rfl hr.u65) (d_callB (c_len rfl) (by rfl) M.z_len bt_len (a_cons (d_var (pv 0)) a_nil)) d_int (nomark _)) (d_and rfl (d_call rfl D_is_word (hr.mono (by decide)) (by rfl) (passD rfl rfl rfl rfl) (a_cons (d_ix rfl hr.u65 (d_var (pv 0)) d_int (fun _ _ => rfl) (fun _ _ => rfl)) a_nil)) (d_one (d_call rfl D_are_users (hr.mono (by decide)) (by rfl) (passD rfl rfl rfl rfl) (a_cons (d_ix rfl hr.u65 (d_var (pv 0)) d_int (fun _ _ => rfl) (fun _ _ => rfl)) a_nil))))))))
theorem ok_is_group (M : Md K w mg) : Df P w K mg base (L2.CX P w) 3 "is_group" ["thing"] (spF K F_is_group 1) := by
  obtain ⟨fd, F⟩ := M.d_is_group
  exact ⟨⟨fd, fn_is_group M F, F.bindsN fun _ _ _ _ _ _ us hl => match us, hl with | [_], _ => rfl⟩, M.g_is_group, F.kp⟩
theorem fn_is_groups (M : Md K w mg) {fd : FuncData} (F : FunD K "is_groups" "is_groups" (defArgs s_is_groups) (defBody s_is_groups) (defScope s_is_groups) [] [] (He.ga K "is_groups") fd) : FnG P w K mg base (L2.CX P w) 4 (He.ga K "is_groups") fd ["thing"] (spF K F_is_groups 1) := by
  have D_is_group := ok_is_group (P := P) (base := base) M
  have D_are_growing := ok_are_growing (P := P) (base := base) M
  refine fn_deep (k := 3) F sc_is_groups (fun cdv A outer sh H E hr => ?_)
  unfold b_is_groups
  exact (ss_cons (s_if (PW.pt (t_or (t_not (t_truth rfl (d_callB (c_isi rfl) (by rfl) M.z_isinstance bt_isinstance (a_cons (d_var (pv 0)) (a_cons (d_c (pe_bltn (v := .ty "tuple") (by rfl) M.z_tuple bt_tuple rfl) (fun _ _ => .ty _)) a_nil))) (by intro _; rfl))) (t_or (t_cmp o_gt (gCmp_b _ _) (d_callB (c_len rfl) (by rfl) M.z_len bt_len (a_cons (d_var (pv 0)) a_nil)) (d_c (pe_gi (by rfl) M.c_MOST_GROUPS) (fun _ _ => .int _)) (nomark _)) (t_or1 (t_not (t_truth rfl (d_callB (c_all rfl rfl) (by rfl) M.z_all bt_all (a_cons (d_lc (own := [("one", 1)]) (js := [1]) rfl sc_is_groups.nd (i_seq rfl (d_var (pv 0))) (blkOk_by (own := [("one", 1)]) (N := ["thing", "one"]) (sc := defScope s_is_groups) (by decide +kernel)) rfl g0_keep (fun _ _ _ _ _ => (g_name (pg_name (i := 1) sc_is_groups.nd rfl (Or.inl rfl)) g0_keep)) (fun _ _ _ _ _ => ts_nil) (fun _ _ _ _ _ => (d_call rfl D_is_group (hr.mono (by decide)) (by rfl) passN (a_cons (d_var (pv 1)) a_nil)))) a_nil)) (by intro _; rfl)))))))
 (ss_one (s_ret d_bl))
 ss_nil)
 (ss_one (s_ret (d_call rfl D_are_growing (hr.mono (by decide)) (by rfl) (passD rfl rfl rfl rfl) (a_cons (d_lc (own := [("one", 1)]) (js := [1]) rfl sc_is_groups.nd (i_seq rfl (d_var (pv 0))) (blkOk_by (own := [("one", 1)]) (N := ["thing", "one"]) (sc := defScope s_is_groups) (by decide +kernel)) rfl g0_keep (fun _ _ _ _ _ => (g_name (pg_name (i := 1) sc_is_groups.nd rfl (Or.inl rfl)) g0_keep)) (fun _ _ _ _ _ => ts_nil) (fun _ _ _ _ _ => (d_ix rfl hr.u65 (d_var (pv 1)) d_int (fun _ _ => rfl) (fun _ _ => rfl)))) a_nil)))))
theorem ok_is_groups (M : Md K w mg) : Df P w K mg base (L2.CX P w) 4 "is_groups" ["thing"] (spF K F_is_groups 1) := by
  obtain ⟨fd, F⟩ := M.d_is_groups
  exact ⟨⟨fd, fn_is_groups M F, F.bindsN fun _ _ _ _ _ _ us hl => match us, hl with | [_], _ => rfl⟩, M.g_is_groups, F.kp⟩
theorem gr_is_groups_0_thing : GRel (gd_is_groups_0_thing (α := D)) (gd_is_groups_0_thing (α := V)) := perm_rel _
theorem dx_is_groups_0_thing (M : Md K w mg) : ∃ fd, Dx P w K mg base (L2.CX P w) 4 "is_groups" ["thing"] (spF K F_is_groups 1) fd ∧ ∃ g, KBn K fd ["thing"] 0 ["thing"] g (gd_is_groups_0_thing (α := V)) := by
  obtain ⟨fd, F⟩ := M.d_is_groups
  exact ⟨fd, ⟨fn_is_groups M F, M.g_is_groups, F.kp⟩, kbn_of F 0 ["thing"] (fun vs zs => gd_is_groups_0_thing vs zs) (fun r1 r2 => perm_vals _ r1 r2) fun kV doc pm an cdv ct us ws l1 l2 => match us, ws, l1, l2 with | [], [_], _, _ => rfl⟩
theorem fn__law_told (M : Md K w mg) {fd : FuncData} (F : FunD K "_law_told" "_law_told" (defArgs s_law_told) (defBody s_law_told) (defScope s_law_told) [] [] (He.ga K "_law_told") fd) : FnG P w K mg base (L2.CX P w) 5 (He.ga K "_law_told") fd ["_law_matter"] (spF K F__law_told 1) := by
  have D__law_are_rights := ok__law_are_rights (P := P) (base := base) M
  have D__law_are_groups := ok__law_are_groups (P := P) (base := base) M
  have D_is_rights := ok_is_rights (P := P) (base := base) M
  have D_is_groups := ok_is_groups (P := P) (base := base) M
  obtain ⟨fd_is_rights_0_thing, Dx_is_rights_0_thing, B_is_rights_0_thing⟩ := dx_is_rights_0_thing (P := P) (base := base) M
  have g_is_rights_0_thing := gr_is_rights_0_thing
  obtain ⟨fd_is_groups_0_thing, Dx_is_groups_0_thing, B_is_groups_0_thing⟩ := dx_is_groups_0_thing (P := P) (base := base) M
  have g_is_groups_0_thing := gr_is_groups_0_thing
  refine fn_deep (k := 4) F sc_law_told (fun cdv A outer sh H E hr => ?_)
  unfold b__law_told
  exact (ss_cons (s_set (i := 1) sc_law_told.nd rfl (Or.inl rfl) (d_callB (c_repr rfl hr.gs hr.units) (by rfl) M.z_repr bt_repr (a_cons (d_var (pv 0)) a_nil)) g0_keep)
 (ss_cons (s_set (i := 2) sc_law_told.nd rfl (Or.inl rfl) (d_lst (a_cons (d_call rfl D__law_are_rights (hr.mono (by decide)) (by rfl) (passD rfl rfl rfl rfl) (a_cons (d_var (pv 0)) a_nil)) (a_cons (d_call rfl D__law_are_groups (hr.mono (by decide)) (by rfl) (passD rfl rfl rfl rfl) (a_cons (d_var (pv 0)) a_nil)) a_nil))) g0_keep)
 (ss_cons (s_for (passes_of rfl) rfl (i_seq rfl (d_lst (a_cons (d_lst (a_cons (d_call rfl D_is_rights (hr.mono (by decide)) (by rfl) (passD rfl rfl rfl rfl) (a_cons (d_var (pv 0)) a_nil)) (a_cons (d_call rfl D_is_groups (hr.mono (by decide)) (by rfl) (passD rfl rfl rfl rfl) (a_cons (d_var (pv 0)) a_nil)) a_nil))) (a_cons (d_lst (a_cons (d_callK0 rfl Dx_is_rights_0_thing B_is_rights_0_thing g_is_rights_0_thing rfl (hr.mono (by decide)) (by rfl) (passD rfl rfl rfl rfl) (k_cons (d_var (pv 0)) k_nil)) (a_cons (d_callK0 rfl Dx_is_groups_0_thing B_is_groups_0_thing g_is_groups_0_thing rfl (hr.mono (by decide)) (by rfl) (passD rfl rfl rfl rfl) (k_cons (d_var (pv 0)) k_nil)) a_nil))) a_nil)))) (g_name (pg_name (i := 3) sc_law_told.nd rfl (Or.inl rfl)) g0_keep)
 (ss_one (s_if (PW.pt (t_or (t_not (t_truth rfl (d_callB (c_all rfl rfl) (by rfl) M.z_all bt_all (a_cons (d_lc (own := [("_law_one", 4)]) (js := [4]) rfl sc_law_told.nd (i_seq rfl (d_var (pv 3))) (blkOk_by (own := [("_law_one", 4)]) (N := ["_law_matter", "_law_kept", "_law_due", "_law_told_here", "_law_one"]) (sc := defScope s_law_told) (by decide +kernel)) rfl g0_keep (fun _ _ _ _ _ => (g_name (pg_name (i := 4) sc_law_told.nd rfl (Or.inl rfl)) g0_keep)) (fun _ _ _ _ _ => ts_nil) (fun _ _ _ _ _ => (d_callB (c_isi rfl) (by rfl) M.z_isinstance bt_isinstance (a_cons (d_var (pv 4)) (a_cons (d_c (pe_bltn (v := .ty "bool") (by rfl) M.z_bool bt_bool rfl) (fun _ _ => .ty _)) a_nil))))) a_nil)) (by intro _; rfl))) (t_or1 (t_cmp (o_ne rfl hr.u65) (gEqv_b true) (d_var (pv 3)) (d_var (pv 2)) (nomark _)))))
 (ss_one (s_ret d_bl))
 ss_nil)))
 (ss_one (s_ret (d_cmp (o_eq rfl hr.u65) (d_callB (c_repr rfl hr.gs hr.units) (by rfl) M.z_repr bt_repr (a_cons (d_var (pv 0)) a_nil)) (d_var (pv 1)) (nomark _)))))))
theorem ok__law_told (M : Md K w mg) : Df P w K mg base (L2.CX P w) 5 "_law_told" ["_law_matter"] (spF K F__law_told 1) := by
  obtain ⟨fd, F⟩ := M.d_law_told
  exact ⟨⟨fd, fn__law_told M F, F.bindsN fun _ _ _ _ _ _ us hl => match us, hl with | [_], _ => rfl⟩, M.g_law_told, F.kp⟩
theorem fn__law_rights_amiss (M : Md K w mg) {fd : FuncData} (F : FunD K "_law_rights_amiss" "_law_rights_amiss" (defArgs s_law_rights_amiss) (defBody s_law_rights_amiss) (defScope s_law_rights_amiss) [] [] (He.ga K "_law_rights_amiss") fd) : FnG P w K mg base (L2.CX P w) 2 (He.ga K "_law_rights_amiss") fd ["_law_purse_here", "_law_grants"] (spF K F__law_rights_amiss 2) := by
  have D__law_take := ok__law_take (P := P) (base := base) M
  refine fn_deep (k := 1) F sc_law_rights_amiss (fun cdv A outer sh H E hr => ?_)
  unfold b__law_rights_amiss
  exact (ss_cons (s_par (i := 2) (j := 3) (by rfl) sc_law_rights_amiss.nd rfl rfl (by decide) rfl rfl (a_cons (d_call rfl D__law_take (hr.mono (by decide)) (by rfl) (passD rfl rfl rfl rfl) (a_cons (d_var (pv 0)) (a_cons d_int a_nil))) (a_cons (d_call rfl D__law_take (hr.mono (by decide)) (by rfl) (passD rfl rfl rfl rfl) (a_cons (d_var (pv 0)) (a_cons d_int a_nil))) a_nil)) g0_keep (by rfl))
 (ss_cons (s_set (i := 4) sc_law_rights_amiss.nd rfl (Or.inl rfl) (d_ix rfl hr.u65 (d_lst (a_cons d_str (a_cons d_str (a_cons d_str (a_cons d_str (a_cons d_str (a_cons d_str (a_cons d_non (a_cons d_bl (a_cons d_int (a_cons (d_lst (a_cons d_str a_nil)) (a_cons (d_tup (a_cons d_str a_nil)) (a_cons d_str (a_cons d_str (a_cons d_str a_nil))))))))))))))) (d_call rfl D__law_take (hr.mono (by decide)) (by rfl) (passD rfl rfl rfl rfl) (a_cons (d_var (pv 0)) (a_cons d_int a_nil))) (fun _ _ => rfl) (fun _ _ => rfl)) g0_keep)
 (ss_cons (s_if (t_cmp (o_eq rfl hr.u65) (gEqv_b false) (d_var (pv 2)) d_int (nomark _))
 (ss_one (s_ret (d_op (o_add rfl) (d_sl rfl (d_var (pv 1)) p_none (p_some (d_var (pv 3)))) (d_sl rfl (d_var (pv 1)) (p_some (d_op (o_add rfl) (d_var (pv 3)) d_int)) p_none))))
 ss_nil)
 (ss_cons (s_if (t_cmp (o_eq rfl hr.u65) (gEqv_b false) (d_var (pv 2)) d_int (nomark _))
 (ss_one (s_ret (d_op (o_add rfl) (d_var (pv 1)) (d_sl rfl (d_var (pv 1)) (p_some (d_var (pv 3))) (p_some (d_op (o_add rfl) (d_var (pv 3)) d_int))))))
 ss_nil)
 (ss_cons (s_if (t_cmp (o_eq rfl hr.u65) (gEqv_b false) (d_var (pv 2)) d_int (nomark _))
 (ss_one (s_ret (d_callTy (c_list rfl rfl) (by rfl) M.z_list bt_list (a_cons (d_var (pv 1)) a_nil))))
 ss_nil)
 (ss_one (s_ret (d_op (o_add rfl) (d_op (o_add rfl) (d_sl rfl (d_var (pv 1)) p_none (p_some (d_var (pv 3)))) (d_tup (a_cons (d_var (pv 4)) a_nil))) (d_sl rfl (d_var (pv 1)) (p_some (d_op (o_add rfl) (d_var (pv 3)) d_int)) p_none)))))))))
theorem ok__law_rights_amiss (M : Md K w mg) : Df P w K mg base (L2.CX P w) 2 "_law_rights_amiss" ["_law_purse_here", "_law_grants"] (spF K F__law_rights_amiss 2) := by
  obtain ⟨fd, F⟩ := M.d_law_rights_amiss
  exact ⟨⟨fd, fn__law_rights_amiss M F, F.bindsN fun _ _ _ _ _ _ us hl => match us, hl with | [_, _], _ => rfl⟩, M.g_law_rights_amiss, F.kp⟩
theorem fn__law_odd (M : Md K w mg) {fd : FuncData} (F : FunD K "_law_odd" "_law_odd" (defArgs s_law_odd) (defBody s_law_odd) (defScope s_law_odd) [] [] (He.ga K "_law_odd") fd) : FnG P w K mg base (L2.CX P w) 2 (He.ga K "_law_odd") fd ["_law_purse_here"] (spF K F__law_odd 1) := by
  have D__law_take := ok__law_take (P := P) (base := base) M
  refine fn_deep (k := 1) F sc_law_odd (fun cdv A outer sh H E hr => ?_)
  unfold b__law_odd
  exact (ss_cons (s_set (i := 1) sc_law_odd.nd rfl (Or.inl rfl) (d_lst (a_cons d_non (a_cons d_bl (a_cons d_int (a_cons d_int (a_cons d_str (a_cons d_str (a_cons (d_lst a_nil) (a_cons d_dnew (a_cons (d_tup a_nil) (a_cons (d_tup (a_cons d_str a_nil)) (a_cons (d_tup (a_cons d_str (a_cons d_str a_nil))) (a_cons (d_lst (a_cons d_str (a_cons d_str (a_cons d_str a_nil)))) (a_cons (d_tup (a_cons (d_lst a_nil) a_nil)) (a_cons (d_tup (a_cons (d_tup (a_cons d_str (a_cons (d_tup a_nil) a_nil))) a_nil)) (a_cons d_str a_nil)))))))))))))))) g0_keep)
 (ss_one (s_ret (d_ix rfl hr.u65 (d_var (pv 1)) (d_call rfl D__law_take (hr.mono (by decide)) (by rfl) (passD rfl rfl rfl rfl) (a_cons (d_var (pv 0)) (a_cons d_int a_nil))) (fun _ _ => rfl) (fun _ _ => rfl)))))
theorem ok__law_odd (M : Md K w mg) : Df P w K mg base (L2.CX P w) 2 "_law_odd" ["_law_purse_here"] (spF K F__law_odd 1) := by
  obtain ⟨fd, F⟩ := M.d_law_odd
  exact ⟨⟨fd, fn__law_odd M F, F.bindsN fun _ _ _ _ _ _ us hl => match us, hl with | [_], _ => rfl⟩, M.g_law_odd, F.kp⟩
theorem fn__law_groups_amiss (M : Md K w mg) {fd : FuncData} (F : FunD K "_law_groups_amiss" "_law_groups_amiss" (defArgs s_law_groups_amiss) (defBody s_law_groups_amiss) (defScope s_law_groups_amiss) [] [] (He.ga K "_law_groups_amiss") fd) : FnG P w K mg base (L2.CX P w) 3 (He.ga K "_law_groups_amiss") fd ["_law_purse_here", "_law_folk_here"] (spF K F__law_groups_amiss 2) := by
  have D__law_take := ok__law_take (P := P) (base := base) M
  have D__law_odd := ok__law_odd (P := P) (base := base) M
  refine fn_deep (k := 2) F sc_law_groups_amiss (fun cdv A outer sh H E hr => ?_)
  unfold b__law_groups_amiss
  exact (ss_cons (s_par (i := 2) (j := 3) (by rfl) sc_law_groups_amiss.nd rfl rfl (by decide) rfl rfl (a_cons (d_call rfl D__law_take (hr.mono (by decide)) (by rfl) (passD rfl rfl rfl rfl) (a_cons (d_var (pv 0)) (a_cons d_int a_nil))) (a_cons (d_call rfl D__law_odd (hr.mono (by decide)) (by rfl) (passD rfl rfl rfl rfl) (a_cons (d_var (pv 0)) a_nil)) a_nil)) g0_keep (by rfl))
 (ss_cons (s_par (i := 4) (j := 5) (by rfl) sc_law_groups_amiss.nd rfl rfl (by decide) rfl rfl (a_cons (d_call rfl D__law_take (hr.mono (by decide)) (by rfl) (passD rfl rfl rfl rfl) (a_cons (d_var (pv 0)) (a_cons (d_callB (c_max rfl rfl) (by rfl) M.z_max bt_max (a_cons d_int (a_cons (d_callB (c_len rfl) (by rfl) M.z_len bt_len (a_cons (d_var (pv 1)) a_nil)) a_nil))) a_nil))) (a_cons (d_call rfl D__law_take (hr.mono (by decide)) (by rfl) (passD rfl rfl rfl rfl) (a_cons (d_var (pv 0)) (a_cons (d_callB (c_max rfl rfl) (by rfl) M.z_max bt_max (a_cons d_int (a_cons (d_callB (c_len rfl) (by rfl) M.z_len bt_len (a_cons (d_var (pv 1)) a_nil)) a_nil))) a_nil))) a_nil)) g0_keep (by rfl))
 (ss_cons (s_if (PW.pt (t_or (t_cmp (o_eq rfl hr.u65) (gEqv_b false) (d_var (pv 2)) d_int (nomark _)) (t_or1 (t_cmp (o_eq rfl hr.u65) (gEqv_b false) (d_var (pv 1)) (d_tup a_nil) (nomark _)))))
 (ss_one (s_ret (d_ix rfl hr.u65 (d_lst (a_cons (d_callTy (c_list rfl rfl) (by rfl) M.z_list bt_list (a_cons (d_var (pv 1)) a_nil)) (a_cons (d_var (pv 3)) (a_cons (d_op (o_add rfl) (d_var (pv 1)) (d_tup (a_cons (d_var (pv 3)) a_nil))) (a_cons (d_op (o_add rfl) (d_var (pv 1)) (d_tup (a_cons (d_tup (a_cons d_str (a_cons (d_lst (a_cons d_str a_nil)) a_nil))) a_nil))) a_nil))))) (d_call rfl D__law_take (hr.mono (by decide)) (by rfl) (passD rfl rfl rfl rfl) (a_cons (d_var (pv 0)) (a_cons d_int a_nil))) (fun _ _ => rfl) (fun _ _ => rfl))))
 ss_nil)
 (ss_cons (s_asg (d_ix rfl hr.u65 (d_var (pv 1)) (d_var (pv 4)) (fun _ _ => rfl) (fun _ _ => rfl)) (g_tup (n := 2) rfl rfl (g_cons (g_name (pg_name (i := 6) sc_law_groups_amiss.nd rfl (Or.inl rfl)) g0_keep) (g_cons (g_name (pg_name (i := 7) sc_law_groups_amiss.nd rfl (Or.inl rfl)) g0_keep) g_nil))))
 (ss_cons (s_set (i := 8) sc_law_groups_amiss.nd rfl (Or.inl rfl) (d_lst (a_cons (d_rev rfl (d_var (pv 7))) (a_cons (d_op (o_add rfl) (d_var (pv 7)) (d_sl rfl (d_var (pv 7)) p_none (p_some d_int))) (a_cons (d_callTy (c_list rfl rfl) (by rfl) M.z_list bt_list (a_cons (d_var (pv 7)) a_nil)) (a_cons (d_op (o_add rfl) (d_var (pv 7)) (d_tup (a_cons d_str a_nil))) (a_cons (d_op (o_add rfl) (d_var (pv 7)) (d_tup (a_cons (d_var (pv 3)) a_nil))) (a_cons d_non a_nil))))))) g0_keep)
 (ss_cons (s_if (t_cmp (o_eq rfl hr.u65) (gEqv_b false) (d_var (pv 2)) d_int (nomark _))
 (ss_one (s_ret (d_op (o_add rfl) (d_op (o_add rfl) (d_sl rfl (d_var (pv 1)) p_none (p_some (d_var (pv 4)))) (d_sl rfl (d_var (pv 1)) (p_some (d_var (pv 4))) (p_some (d_op (o_add rfl) (d_var (pv 4)) d_int)))) (d_sl rfl (d_var (pv 1)) (p_some (d_var (pv 4))) p_none))))
 ss_nil)
 (ss_cons (s_if (t_cmp (o_eq rfl hr.u65) (gEqv_b false) (d_var (pv 2)) d_int (nomark _))
 (ss_one (s_ret (d_op (o_add rfl) (d_op (o_add rfl) (d_sl rfl (d_var (pv 1)) p_none (p_some (d_var (pv 4)))) (d_sl rfl (d_var (pv 1)) (p_some (d_var (pv 5))) (p_some (d_op (o_add rfl) (d_var (pv 5)) d_int)))) (d_sl rfl (d_var (pv 1)) (p_some (d_op (o_add rfl) (d_var (pv 4)) d_int)) p_none))))
 ss_nil)
 (ss_cons (s_if (t_cmp (o_eq rfl hr.u65) (gEqv_b false) (d_var (pv 2)) d_int (nomark _))
 (ss_one (s_ret (d_rev rfl (d_var (pv 1)))))
 ss_nil)
 (ss_cons (s_if (t_cmp (o_eq rfl hr.u65) (gEqv_b false) (d_var (pv 2)) d_int (nomark _))
 (ss_cons (s_set (i := 9) sc_law_groups_amiss.nd rfl (Or.inl rfl) (d_ix rfl hr.u65 (d_lst (a_cons (d_tup (a_cons (d_var (pv 6)) a_nil)) (a_cons (d_tup (a_cons (d_var (pv 6)) (a_cons (d_var (pv 7)) (a_cons (d_tup a_nil) a_nil)))) (a_cons (d_lst (a_cons (d_var (pv 6)) (a_cons (d_var (pv 7)) a_nil))) (a_cons (d_var (pv 6)) a_nil))))) (d_call rfl D__law_take (hr.mono (by decide)) (by rfl) (passD rfl rfl rfl rfl) (a_cons (d_var (pv 0)) (a_cons d_int a_nil))) (fun _ _ => rfl) (fun _ _ => rfl)) g0_keep)
 (ss_one (s_ret (d_op (o_add rfl) (d_op (o_add rfl) (d_sl rfl (d_var (pv 1)) p_none (p_some (d_var (pv 4)))) (d_tup (a_cons (d_var (pv 9)) a_nil))) (d_sl rfl (d_var (pv 1)) (p_some (d_op (o_add rfl) (d_var (pv 4)) d_int)) p_none)))))
 ss_nil)
 (ss_cons (s_if (t_cmp (o_eq rfl hr.u65) (gEqv_b false) (d_var (pv 2)) d_int (nomark _))
 (ss_one (s_ret (d_op (o_add rfl) (d_op (o_add rfl) (d_sl rfl (d_var (pv 1)) p_none (p_some (d_var (pv 4)))) (d_tup (a_cons (d_tup (a_cons (d_var (pv 3)) (a_cons (d_var (pv 7)) a_nil))) a_nil))) (d_sl rfl (d_var (pv 1)) (p_some (d_op (o_add rfl) (d_var (pv 4)) d_int)) p_none))))
 ss_nil)
 (ss_cons (s_if (t_cmp (o_eq rfl hr.u65) (gEqv_b false) (d_var (pv 2)) d_int (nomark _))
 (ss_one (s_ret (d_op (o_add rfl) (d_op (o_add rfl) (d_sl rfl (d_var (pv 1)) p_none (p_some (d_var (pv 4)))) (d_tup (a_cons (d_tup (a_cons (d_op (o_add rfl) (d_var (pv 6)) d_str) (a_cons (d_var (pv 7)) a_nil))) a_nil))) (d_sl rfl (d_var (pv 1)) (p_some (d_op (o_add rfl) (d_var (pv 4)) d_int)) p_none))))
 ss_nil)
 (ss_one (s_ret (d_op (o_add rfl) (d_op (o_add rfl) (d_sl rfl (d_var (pv 1)) p_none (p_some (d_var (pv 4)))) (d_tup (a_cons (d_tup (a_cons (d_var (pv 6)) (a_cons (d_ix rfl hr.u65 (d_var (pv 8)) (d_call rfl D__law_take (hr.mono (by decide)) (by rfl) (passD rfl rfl rfl rfl) (a_cons (d_var (pv 0)) (a_cons d_int a_nil))) (fun _ _ => rfl) (fun _ _ => rfl)) a_nil))) a_nil))) (d_sl rfl (d_var (pv 1)) (p_some (d_op (o_add rfl) (d_var (pv 4)) d_int)) p_none)))))))))))))))
theorem ok__law_groups_amiss (M : Md K w mg) : Df P w K mg base (L2.CX P w) 3 "_law_groups_amiss" ["_law_purse_here", "_law_folk_here"] (spF K F__law_groups_amiss 2) := by
  obtain ⟨fd, F⟩ := M.d_law_groups_amiss
  exact ⟨⟨fd, fn__law_groups_amiss M F, F.bindsN fun _ _ _ _ _ _ us hl => match us, hl with | [_, _], _ => rfl⟩, M.g_law_groups_amiss, F.kp⟩
theorem fn_law (M : Md K w mg) {fd : FuncData} (F : FunD K "law" "law" (defArgs s_law) (defBody s_law) (defScope s_law) [] [] (He.ga K "law") fd) : FnG P w K mg base (L2.CX P w) 6 (He.ga K "law") fd ["_law_script"] (spF K F_law 1) := by
  have D__law_purse := ok__law_purse (P := P) (base := base) M
  have D__law_take := ok__law_take (P := P) (base := base) M
  have D__law_folk := ok__law_folk (P := P) (base := base) M
  have D__law_rights_amiss := ok__law_rights_amiss (P := P) (base := base) M
  have D__law_groups_amiss := ok__law_groups_amiss (P := P) (base := base) M
  have D__law_odd := ok__law_odd (P := P) (base := base) M
  have D__law_told := ok__law_told (P := P) (base := base) M
  refine fn_deep (k := 5) F sc_law (fun cdv A outer sh H E hr => ?_)
  unfold b_law
  exact (ss_cons (s_for (passes_of rfl) rfl (i_rng1 (by rfl) M.z_range (a_cons (d_callB (c_max rfl rfl) (by rfl) M.z_max bt_max (a_cons d_int (a_cons (d_callB (c_min rfl rfl) (by rfl) M.z_min bt_min (a_cons (d_callB (c_len rfl) (by rfl) M.z_len bt_len (a_cons (d_var (pv 0)) a_nil)) (a_cons d_int a_nil))) a_nil))) a_nil)) (g_name (pg_name (i := 1) sc_law.nd rfl (Or.inl rfl)) g0_keep)
 (ss_cons (s_set (i := 2) sc_law.nd rfl (Or.inr rfl) (d_call rfl D__law_purse (hr.mono (by decide)) (by rfl) (passD rfl rfl rfl rfl) (a_cons (d_var (pv 0)) (a_cons (d_var (pv 1)) a_nil))) g0_keep)
 (ss_cons (s_set (i := 3) sc_law.nd rfl (Or.inl rfl) (d_callTy (c_tuple rfl) (by rfl) M.z_tuple bt_tuple (a_cons (d_lc (own := [("_law_turn", 4)]) (js := [4]) rfl sc_law.nd (i_rng1 (by rfl) M.z_range (a_cons d_int a_nil)) (blkOk_by (own := [("_law_turn", 4)]) (N := ["_law_script", "_law_k", "_law_purse_here", "_law_grants", "_law_turn", "_law_folk_here", "_law_some", "_law_matter", "_law_crowd"]) (sc := defScope s_law) (by decide +kernel)) rfl g0_keep (fun _ _ _ _ _ => (g_name (pg_name (i := 4) sc_law.nd rfl (Or.inl rfl)) g0_keep)) (fun _ _ _ _ _ => ts_nil) (fun _ _ _ _ _ => (d_ix rfl hr.u65 (d_lst (a_cons d_str (a_cons d_str (a_cons d_str (a_cons d_str a_nil))))) (d_call rfl D__law_take (hr.mono (by decide)) (by rfl) passN (a_cons (d_var (pv 2)) (a_cons d_int a_nil))) (fun _ _ => rfl) (fun _ _ => rfl)))) a_nil)) g0_keep)
 (ss_cons (s_set (i := 5) sc_law.nd rfl (Or.inl rfl) (d_call rfl D__law_folk (hr.mono (by decide)) (by rfl) (passD rfl rfl rfl rfl) (a_cons (d_var (pv 2)) a_nil)) g0_keep)
 (ss_cons (s_for (passes_of rfl) rfl (i_rng1 (by rfl) M.z_range (a_cons d_int a_nil)) (g_name (pg_name (i := 4) sc_law.nd rfl (Or.inl rfl)) g0_keep)
 (ss_cons (s_set (i := 6) sc_law.nd rfl (Or.inl rfl) (d_lst (a_cons (d_var (pv 3)) (a_cons (d_var (pv 5)) (a_cons (d_call rfl D__law_rights_amiss (hr.mono (by decide)) (by rfl) (passD rfl rfl rfl rfl) (a_cons (d_var (pv 2)) (a_cons (d_var (pv 3)) a_nil))) (a_cons (d_call rfl D__law_groups_amiss (hr.mono (by decide)) (by rfl) (passD rfl rfl rfl rfl) (a_cons (d_var (pv 2)) (a_cons (d_var (pv 5)) a_nil))) (a_cons (d_call rfl D__law_odd (hr.mono (by decide)) (by rfl) (passD rfl rfl rfl rfl) (a_cons (d_var (pv 2)) a_nil)) a_nil)))))) g0_keep)
 (ss_one (s_if (t_not (t_truth rfl (d_callB (c_all rfl rfl) (by rfl) M.z_all bt_all (a_cons (d_lc (own := [("_law_matter", 7)]) (js := [7]) rfl sc_law.nd (i_seq rfl (d_op (o_add rfl) (d_var (pv 6)) (d_lst (a_cons (d_var (pv 3)) (a_cons (d_var (pv 5)) a_nil))))) (blkOk_by (own := [("_law_matter", 7)]) (N := ["_law_script", "_law_k", "_law_purse_here", "_law_grants", "_law_turn", "_law_folk_here", "_law_some", "_law_matter", "_law_crowd"]) (sc := defScope s_law) (by decide +kernel)) rfl g0_keep (fun _ _ _ _ _ => (g_name (pg_name (i := 7) sc_law.nd rfl (Or.inl rfl)) g0_keep)) (fun _ _ _ _ _ => ts_nil) (fun _ _ _ _ _ => (d_call rfl D__law_told (hr.mono (by decide)) (by rfl) passN (a_cons (d_var (pv 7)) a_nil)))) a_nil)) (by intro _; rfl)))
 (ss_one (s_ret d_bl))
 ss_nil))))
 (ss_one (s_if (PW.pt (t_or (t_not (t_truth rfl (d_call rfl D__law_told (hr.mono (by decide)) (by rfl) (passD rfl rfl rfl rfl) (a_cons (d_sl rfl (d_var (pv 5)) p_none (p_some d_int)) a_nil)) (by intro _; rfl))) (t_or (t_not (t_truth rfl (d_call rfl D__law_told (hr.mono (by decide)) (by rfl) (passD rfl rfl rfl rfl) (a_cons (d_tup (a_cons (d_tup (a_cons d_str (a_cons (d_tup a_nil) a_nil))) (a_cons (d_tup (a_cons d_str (a_cons (d_tup (a_cons d_str (a_cons d_str a_nil))) a_nil))) a_nil))) a_nil)) (by intro _; rfl))) (t_or1 (t_not (t_truth rfl (d_call rfl D__law_told (hr.mono (by decide)) (by rfl) (passD rfl rfl rfl rfl) (a_cons (d_tup a_nil) a_nil)) (by intro _; rfl)))))))
 (ss_one (s_ret d_bl))
 ss_nil)))))))
 (ss_cons (s_set (i := 8) sc_law.nd rfl (Or.inl rfl) (d_callTy (c_tuple rfl) (by rfl) M.z_tuple bt_tuple (a_cons (d_lc (own := [("_law_k", 1)]) (js := [1]) rfl sc_law.nd (i_rng1 (by rfl) M.z_range (a_cons d_int a_nil)) (blkOk_by (own := [("_law_k", 1)]) (N := ["_law_script", "_law_k", "_law_purse_here", "_law_grants", "_law_turn", "_law_folk_here", "_law_some", "_law_matter", "_law_crowd"]) (sc := defScope s_law) (by decide +kernel)) rfl g0_keep (fun _ _ _ _ _ => (g_name (pg_name (i := 1) sc_law.nd rfl (Or.inl rfl)) g0_keep)) (fun _ _ _ _ _ => ts_nil) (fun _ _ _ _ _ => (d_op (o_add rfl) (d_ix rfl hr.u65 d_str (d_op o_fdiv (d_var (pv 1)) d_int) (fun _ _ => rfl) (fun _ _ => rfl)) (d_ix rfl hr.u65 d_str (d_op o_mod (d_var (pv 1)) d_int) (fun _ _ => rfl) (fun _ _ => rfl))))) a_nil)) g0_keep)
 (ss_one (s_ret (d_and rfl (d_call rfl D__law_told (hr.mono (by decide)) (by rfl) (passD rfl rfl rfl rfl) (a_cons (d_tup (a_cons (d_tup (a_cons d_str (a_cons (d_var (pv 8)) a_nil))) a_nil)) a_nil)) (d_one (d_call rfl D__law_told (hr.mono (by decide)) (by rfl) (passD rfl rfl rfl rfl) (a_cons (d_tup (a_cons (d_tup (a_cons d_str (a_cons (d_op (o_add rfl) (d_sl rfl (d_var (pv 8)) p_none (p_some d_int)) (d_negT rfl (d_var (pv 8)) p_none (p_some d_int))) a_nil))) a_nil)) a_nil))))))))
end
end Fz
open PySem L2 Dz Fz
local macro_rules | `(tactic| walk_at "dz") => `(tactic| try simp only [ok_x, okx_out, okx_bind, okx_ok, okx_exc, okx_bad, okx_if, sp_seq, sp_nx, sp_rt, sp_bk, sp_ct, sp_ex, sp_bad, sp_if, x_var, x_c, x_op, x_un, x_call, x_callN, x_callD, x_callK, x_nil, x_cons, x_tup, x_lst, x_not, x_and, x_or, x_tst, x_andV, x_orV, x_notV, x_ifE, x_sl, x_pn, x_ps, x_mt, x_chain, x_dnew,
  sp_rng1, s_expr_x, s_ret_x, s_retN_x, s_next_x, s_break_x, s_cont_x, s_if_x, s_asg_x, s_asgT_x, s_par_x, s_par3_x, s_setix_x, s_raise_x, tg_name, tg_nil, tg_cons, tg_tup, v_addI, v_sub, v_neg, v_ltI, v_leI, v_gtI, v_geI, v_isN, v_isnN, v_isB, v_isnB, v_eqI, v_neI, v_eqS, v_neS, v_isi, v_max, v_min, v_ixT, v_ixF, v_lenT, v_lenF, ty_NoneType_int, ty_NoneType_str, ty_NoneType_bool, ty_NoneType_tuple, ty_NoneType_list, ty_NoneType_dict, ty_bool_int, ty_bool_str, ty_bool_bool, ty_bool_tuple, ty_bool_list, ty_bool_dict, ty_int_int, ty_int_str, ty_int_bool, ty_int_tuple, ty_int_list, ty_int_dict, ty_str_int, ty_str_str, ty_str_bool, ty_str_tuple, ty_str_list, ty_str_dict, ty_tuple_int, ty_tuple_str, ty_tuple_bool, ty_tuple_tuple, ty_tuple_list, ty_tuple_dict, ty_list_int, ty_list_str, ty_list_bool, ty_list_tuple, ty_list_list, ty_list_dict, ty_dict_int, ty_dict_str, ty_dict_bool, ty_dict_tuple, ty_dict_list, ty_dict_dict, tya_int, tya_str, tya_bool, tya_tuple, tya_list, tya_dict, ty_i, ty_b, ty_s, ty_n, ty_t, ty_f, t_bl, t_int, t_nonx, t_tup,
  List.getElem?_cons_zero, List.getElem?_cons_succ, List.set_cons_zero, List.set_cons_succ, List.length_cons, List.length_nil, Nat.zero_add, Nat.reduceAdd, Nat.reduceLeDiff, if_true, if_false, ite_true, ite_false, Bool.not_true, Bool.not_false, decide_true, decide_false, reduceCtorEq, wipeE, and_self, and_true, true_and, reduceIte, Nat.reduceEqDiff, Option.some.injEq, Bool.false_eq_true])
local macro_rules | `(tactic| walk_at "dy") => `(tactic| try simp only [ok_x, okx_out, okx_bind, okx_ok, okx_exc, okx_bad, okx_if, sp_nx, sp_rt, sp_bk, sp_ct, sp_ex, sp_bad, sp_if, x_var, x_c, x_op, x_un, x_call, x_callN, x_callD, x_callK, x_nil, x_cons, x_tup, x_lst, x_not, x_and, x_or, x_tst, x_andV, x_orV, x_notV, x_ifE, x_sl, x_pn, x_ps, x_mt, x_chain, x_dnew,
  sp_rng1, s_expr_x, s_ret_x, s_retN_x, s_next_x, s_break_x, s_cont_x, s_if_x, s_asg_x, s_asgT_x, s_par_x, s_par3_x, s_setix_x, s_raise_x, tg_name, tg_nil, tg_cons, tg_tup, v_addI, v_sub, v_neg, v_ltI, v_leI, v_gtI, v_geI, v_isN, v_isnN, v_isB, v_isnB, v_eqI, v_neI, v_eqS, v_neS, v_isi, v_max, v_min, v_ixT, v_ixF, v_lenT, v_lenF, ty_NoneType_int, ty_NoneType_str, ty_NoneType_bool, ty_NoneType_tuple, ty_NoneType_list, ty_NoneType_dict, ty_bool_int, ty_bool_str, ty_bool_bool, ty_bool_tuple, ty_bool_list, ty_bool_dict, ty_int_int, ty_int_str, ty_int_bool, ty_int_tuple, ty_int_list, ty_int_dict, ty_str_int, ty_str_str, ty_str_bool, ty_str_tuple, ty_str_list, ty_str_dict, ty_tuple_int, ty_tuple_str, ty_tuple_bool, ty_tuple_tuple, ty_tuple_list, ty_tuple_dict, ty_list_int, ty_list_str, ty_list_bool, ty_list_tuple, ty_list_list, ty_list_dict, ty_dict_int, ty_dict_str, ty_dict_bool, ty_dict_tuple, ty_dict_list, ty_dict_dict, tya_int, tya_str, tya_bool, tya_tuple, tya_list, tya_dict, ty_i, ty_b, ty_s, ty_n, ty_t, ty_f, t_bl, t_int, t_nonx, t_tup,
  List.getElem?_cons_zero, List.getElem?_cons_succ, List.set_cons_zero, List.set_cons_succ, List.length_cons, List.length_nil, Nat.zero_add, Nat.reduceAdd, Nat.reduceLeDiff, if_true, if_false, ite_true, ite_false, Bool.not_true, Bool.not_false, decide_true, decide_false, reduceCtorEq, wipeE, and_self, and_true, true_and, reduceIte, Nat.reduceEqDiff, Option.some.injEq, Bool.false_eq_true])
/-! ### things of known kinds -/
namespace Fz
/-- a thing of a known kind -/
def Kd (S : Store) (d : D) : Prop := ∃ t, tyD S d = some t
mutual
/-- a thing of known kinds all through, of a fair size -/
def kdB (S : Store) : D → Bool
  | .str z => decide (z.length ≤ 1000000)
  | .tup xs => decide (xs.length ≤ 20000) && kdsB S xs
  | .obj i => (match S[i]? with
    | some (.lst _) => true
    | some (.dict _) => true
    | _ => false)
  | .flst _ => true
  | .int _ => true
  | .bl _ => true
  | .non => true
  | _ => false
def kdsB (S : Store) : List D → Bool
  | [] => true
  | x :: xs => kdB S x && kdsB S xs
end
theorem kd_of {S : Store} {d : D} (h : kdB S d = true) : Kd S d := by
  cases d with
  | obj i =>
    unfold kdB at h
    unfold Kd tyD
    split at h
    · rename_i hh; simp only [hh]; exact ⟨_, rfl⟩
    · rename_i hh; simp only [hh]; exact ⟨_, rfl⟩
    · cases h
  | glob _ => cases h
  | ty _ => cases h
  | exc => cases h
  | _ => exact ⟨_, rfl⟩
mutual
theorem kdB_gr {S S1 : Store} (g : Gr [] S S1) : ∀ d : D, kdB S d = true → kdB S1 d = true
  | .str z, h => h
  | .tup xs, h => by
    simp only [kdB, Bool.and_eq_true] at h ⊢
    exact ⟨h.1, kdsB_gr g xs h.2⟩
  | .obj i, h => by
    unfold kdB at h ⊢
    split at h
    · rename_i hh; simp only [g.at0 hh]
    · rename_i hh; simp only [g.at0 hh]
    · cases h
  | .flst _, h => h
  | .int _, h => h
  | .bl _, h => h
  | .non, h => h
  | .glob _, h => by cases h
  | .ty _, h => by cases h
  | .exc, h => by cases h
theorem kdsB_gr {S S1 : Store} (g : Gr [] S S1) : ∀ xs : List D, kdsB S xs = true → kdsB S1 xs = true
  | [], _ => rfl
  | x :: xs, h => by
    simp only [kdsB, Bool.and_eq_true] at h ⊢
    exact ⟨kdB_gr g x h.1, kdsB_gr g xs h.2⟩
end
theorem kds_mem {S : Store} : ∀ {xs : List D} {d : D}, kdsB S xs = true → d ∈ xs → kdB S d = true
  | x :: xs, d, h, m => by
    simp only [kdsB, Bool.and_eq_true] at h
    rcases List.mem_cons.mp m with rfl | m
    · exact h.1
    · exact kds_mem h.2 m
theorem sz_str {n : Nat} (h : n ≤ 1000000) : n ≤ sizeLine := by have : sizeLine = 16777216 := sizeLine_eq; omega
theorem v_lenS {S : Store} {QD : D → Store → Prop} {E : Str → List (Str × D) → Store → Prop} {z : Str} (h : z.length ≤ sizeLine) : OkX (gLen [.str z] S) QD E = QD (.int z.length) S := by
  unfold gLen
  simp only
  rw [if_pos h]
  rfl
/-- a promise that is not looked into -/
structure OkP (r : Res D) (Q : D → Store → Prop) : Prop where
  h : Ok r Q
theorem OkP.get {r : Res D} {Q : D → Store → Prop} (k : OkP r Q) : ∃ a S', r = .ok a S' ∧ Q a S' := k.h.get
theorem OkP.x {r : Res D} {Q QD : D → Store → Prop} {E : Str → List (Str × D) → Store → Prop} (k : OkP r Q) (f : ∀ a S, Q a S → QD a S) : OkX r QD E := k.h.x f
theorem items_gr {S S1 : Store} {v : D} {xs : List D} (g : Gr [] S S1) (h : itemsD S v = some xs) : itemsD S1 v = some xs := by
  unfold itemsD at h ⊢
  split at h
  · exact h
  · exact h
  · split at h
    · rename_i hh
      cases h
      simp only [g.at0 hh]
    · cases h
  · cases h
theorem len_items {S : Store} {v : D} {xs : List D} (h : itemsD S v = some xs) : gLen [v] S = .ok (.int xs.length) S := by
  cases v with
  | str z => cases h
  | _ =>
    unfold gLen
    simp only [h]
theorem ix_items {S : Store} {v : D} {xs : List D} {i : Int} {d : D} (h : itemsD S v = some xs) (e : atI xs i = some d) : gIx v (.int i) S = .ok d S := by
  cases v with
  | tup ys => cases h; unfold gIx kvsD ixD itemsD; simp only [e]
  | flst ys => cases h; unfold gIx kvsD ixD itemsD; simp only [e]
  | obj l =>
    unfold itemsD at h
    simp only at h
    split at h
    · rename_i hh
      cases h
      unfold gIx kvsD ixD itemsD
      simp only [hh, e]
    · cases h
  | _ => cases h
theorem atI_getD {zs : List Str} {i : Nat} (h : i < zs.length) : atI (zs.map D.str) (i : Int) = some (.str (zs.getD i "")) := by
  unfold atI
  have e : ixN (zs.map D.str).length (i : Int) = some i := by
    unfold ixN
    rw [if_pos (by omega), if_pos (by rw [List.length_map]; omega)]
    simp
  rw [e]
  simp [List.getElem?_map, h]
/-- a thing with its data, as long as only the objects W change -/
def Tv (W : List Nat) (S : Store) (d : D) (pd : PyData) : Prop := ∀ S', Gr W S S' → kdB S' d = true ∧ shD 20 S' d = some pd
theorem Tv.go {W : List Nat} {S S1 : Store} {d : D} {pd : PyData} (h : Tv W S d pd) (g : Gr W S S1) : Tv W S1 d pd := fun S' g' => h S' (g.trans g')
end Fz
/-! ### the purse and draws -/
namespace Fz
def Pu (S : Store) (p : Nat) : Prop := ∃ a b : Int, S[p]? = some (.lst [.int a, .int b]) ∧ 0 ≤ b ∧ b < 2 ^ 40
/-- the purse has gone on, all else stays -/
structure Go2 (p : Nat) (S S' : Store) : Prop where
  gr : Gr [p] S S'
  pu : Pu S' p
theorem Pu.lt {S : Store} {p : Nat} (h : Pu S p) : p < S.length := let ⟨_, _, e, _⟩ := h; lt_of e
theorem Pu.gr {S S' : Store} {p : Nat} (h : Pu S p) (g : Gr [] S S') : Pu S' p := let ⟨a, b, e, z⟩ := h; ⟨a, b, g.at0 e, z⟩
theorem Go2.refl {p : Nat} {S : Store} (h : Pu S p) : Go2 p S S := ⟨Gr.refl, h⟩
theorem Go2.trans {p : Nat} {S S1 S2 : Store} (a : Go2 p S S1) (b : Go2 p S1 S2) : Go2 p S S2 := ⟨a.gr.trans b.gr, b.pu⟩
theorem Go2.same {p : Nat} {S S1 S2 : Store} (a : Go2 p S S1) (b : Gr [] S1 S2) : Go2 p S S2 := ⟨a.gr.trans b.w, a.pu.gr b⟩
theorem Go2.of {p : Nat} {S S1 : Store} (h : Pu S p) (b : Gr [] S S1) : Go2 p S S1 := ⟨b.w, h.gr b⟩
theorem Go2.at {p i : Nat} {S S1 : Store} {o : MO} (g : Go2 p S S1) (h : S[i]? = some o) (n : i ≠ p) : S1[i]? = some o := g.gr.at h (by simpa using n)
theorem fmod_range (a : Int) {n : Int} (h : 0 < n) : 0 ≤ a.fmod n ∧ a.fmod n < n := by
  rw [Int.fmod_eq_emod_of_nonneg _ (Int.le_of_lt h)]
  exact ⟨Int.emod_nonneg _ (by omega), Int.emod_lt_of_pos _ h⟩
theorem atI_nat {xs : List D} {r : Int} (h0 : 0 ≤ r) (h1 : r < xs.length) : ∃ v, v ∈ xs ∧ atI xs r = some v := by
  have hl : r.toNat < xs.length := by omega
  refine ⟨xs[r.toNat], List.getElem_mem hl, ?_⟩
  unfold atI ixN
  rw [if_pos h0, if_pos h1]
  exact List.getElem?_eq_getElem hl
theorem at0 {x : D} {xs : List D} : atI (x :: xs) 0 = some x := by
  unfold atI ixN
  rw [if_pos (Int.le_refl 0), if_pos (by simp)]
  rfl
theorem at1 {x y : D} {xs : List D} : atI (x :: y :: xs) 1 = some y := by
  unfold atI ixN
  rw [if_pos (by omega), if_pos (by simp; omega)]
  rfl
theorem cmul {i j : Int} (h : (-(2 ^ 64) < i ∧ i < 2 ^ 64) ∨ (-(2 ^ 64) < j ∧ j < 2 ^ 64)) : cMul i j = true := by
  unfold cMul
  simp only [Bool.or_eq_true, Bool.and_eq_true, decide_eq_true_eq]
  exact h
theorem set_ix {S : Store} {p : Nat} {a b x : D} (h : S[p]? = some (.lst [a, b])) : setIx (.obj p) (.int 0) x S = some (S.set p (.lst [x, b])) ∧ setIx (.obj p) (.int 1) x S = some (S.set p (.lst [a, x])) := by
  unfold setIx
  simp only [h]
  exact ⟨rfl, rfl⟩
theorem take_okB {p : Nat} {n : Int} {S : Store} (hp : Pu S p) (hn : 0 < n) (hn2 : n < 10 ^ 60) : Ok (F__law_take [.obj p, .int n] S) (fun r S' => ∃ z : Int, r = .int z ∧ 0 ≤ z ∧ z < n ∧ Go2 p S S') := by
  obtain ⟨a, b, e, h0, h1⟩ := hp
  show Ok (outF (b__law_take [some (.obj p), some (.int n), none] S)) _
  unfold b__law_take
  walk_at "dz"
  rw [v_ixL e, at1]
  walk_at "dz"
  by_cases hb : b = 0
  · subst hb
    rw [decide_eq_true rfl]
    walk_at "dz"
    rw [v_ixL e, at0]
    simp only
    rw [v_mod, if_pos (by simp; omega)]
    walk_at "dz"
    rw [v_ixL e, at0]
    simp only
    rw [v_fdiv, if_pos (by simp; omega)]
    walk_at "dz"
    rw [(set_ix e).1]
    have fm := fmod_range a hn
    exact ⟨_, rfl, fm.1, fm.2, Gr.refl.set (.inl (by simp)), _, _, set_at e, by omega, by omega⟩
  · rw [decide_eq_false hb]
    walk_at "dz"
    rw [v_ixL e, at1]
    simp only
    rw [v_mul, if_pos (cmul (.inl ⟨by omega, by omega⟩))]
    walk_at "dz"
    rw [v_mod, if_pos (by decide)]
    walk_at "dz"
    rw [(set_ix e).2]
    have fm := fmod_range (b * 39373 + 7919) (n := 2147483587) (by decide)
    generalize (b * 39373 + 7919).fmod 2147483587 = c at *
    have e2 : (S.set p (.lst [.int a, .int (1 + c)]))[p]? = some (.lst [.int a, .int (1 + c)]) := set_at e
    simp only
    walk_at "dz"
    rw [v_ixL e2, at1]
    simp only
    rw [v_mul, if_pos (cmul (.inl ⟨by omega, by omega⟩))]
    rw [v_mod, if_pos (by decide)]
    walk_at "dz"
    rw [v_fdiv, if_pos (by decide)]
    walk_at "dz"
    rw [v_mod, if_pos (by simp; omega)]
    have f2 := fmod_range ((((1 + c) * 30269).fmod 2147483563).fdiv 11) hn
    exact ⟨_, rfl, f2.1, f2.2, Gr.refl.set (.inl (by simp)), _, _, e2, by omega, by omega⟩
theorem take_ok {p : Nat} {n : Int} {S : Store} (hp : Pu S p) (hn : 0 < n) (hn2 : n < 1000000) : Ok (F__law_take [.obj p, .int n] S) (fun r S' => ∃ z : Int, r = .int z ∧ 0 ≤ z ∧ z < n ∧ Go2 p S S') := take_okB hp hn (by omega)
theorem cut_one (ns : List Int) (k : Nat) : ∃ z, cutL (ns.map D.int) (some (k : Int)) (some ((k : Int) + 1)) ++ [D.int 0] = D.int z :: (cutL (ns.map D.int) (some (k : Int)) (some ((k : Int) + 1)) ++ [D.int 0]).tail := by
  cases e : cutL (ns.map D.int) (some (k : Int)) (some ((k : Int) + 1)) with
  | nil => exact ⟨0, rfl⟩
  | cons v r =>
    have hv : v ∈ ns.map D.int := by
      have : v ∈ cutL (ns.map D.int) (some (k : Int)) (some ((k : Int) + 1)) := by rw [e]; exact List.mem_cons_self ..
      unfold cutL at this
      exact List.mem_of_mem_drop (List.mem_of_mem_take this)
    rw [List.mem_map] at hv
    obtain ⟨z, _, rfl⟩ := hv
    exact ⟨z, rfl⟩
theorem cutL_len {α : Type} (xs : List α) (lo hi : Option Int) : (cutL xs lo hi).length ≤ xs.length := by
  unfold cutL
  rw [List.length_take, List.length_drop]
  omega
theorem v_addL {S : Store} {QD : D → Store → Prop} {E : Str → List (Str × D) → Store → Prop} {l k : Nat} {xs ys : List D} (h1 : S[l]? = some (.lst xs)) (h2 : S[k]? = some (.lst ys)) : OkX (gAdd (.obj l) (.obj k) S) QD E = if xs.length + ys.length ≤ sizeLine then QD (.obj S.length) (S ++ [.lst (xs ++ ys)]) else False := by
  unfold gAdd
  simp only [h1, h2]
  rw [okx_if]
  rfl
theorem purse_ok {ns : List Int} {k : Nat} {S : Store} (hn : ns.length ≤ 63) (hk : k ≤ 100) : Ok (F__law_purse [.flst (ns.map D.int), .int k] S) (fun r S' => ∃ p, r = .obj p ∧ S.length ≤ p ∧ Gr [] S S' ∧ Pu S' p) := by
  show Ok (outF (b__law_purse [some (.flst (ns.map D.int)), some (.int k), none] S)) _
  unfold b__law_purse
  walk_at "dz"
  simp only [slD, okx_ok]
  rw [if_pos (by decide)]
  have h1 : (S ++ [MO.lst (cutL (ns.map D.int) (some (k : Int)) (some ((k : Int) + 1)))] ++ [MO.lst [D.int 0]])[S.length]? = some (.lst (cutL (ns.map D.int) (some (k : Int)) (some ((k : Int) + 1)))) := Gr.new.at0 at_new
  rw [v_addL h1 at_new]
  have hc := cutL_len (ns.map D.int) (some (k : Int)) (some ((k : Int) + 1))
  rw [List.length_map] at hc
  rw [if_pos (by simp only [List.length_cons, List.length_nil]; have : sizeLine = 16777216 := sizeLine_eq; omega)]
  obtain ⟨z, hz⟩ := cut_one ns k
  rw [hz, v_ixL at_new, at0]
  walk_at "dz"
  rw [v_pow, if_pos (by decide)]
  walk_at "dz"
  generalize hS : (S ++ [MO.lst (cutL (ns.map D.int) (some (k : Int)) (some ((k : Int) + 1)))] ++ [MO.lst [D.int 0]] ++ [MO.lst (D.int z :: (cutL (ns.map D.int) (some (k : Int)) (some ((k : Int) + 1)) ++ [D.int 0]).tail)]) = S1
  have g1 : Gr [] S S1 := by rw [← hS]; exact (Gr.new.trans Gr.new).trans Gr.new
  have big : ∀ y : Int, ∃ p, D.obj S1.length = D.obj p ∧ S.length ≤ p ∧ Gr [] S (S1 ++ [.lst [.int y, .int 0]]) ∧ Pu (S1 ++ [.lst [.int y, .int 0]]) p := fun y => ⟨_, rfl, g1.len, g1.trans Gr.new, y, 0, at_new, by decide, by decide⟩
  by_cases c1 : (10 : Int) ^ Int.toNat 18 ≤ z
  · rw [decide_eq_true c1]
    walk_at "dz"
    rw [if_pos (by decide)]
    exact big _
  · rw [decide_eq_false c1]
    walk_at "dz"
    by_cases c2 : z < 0
    · rw [decide_eq_true c2]
      walk_at "dz"
      rw [if_pos (by decide)]
      exact big _
    · rw [decide_eq_false c2]
      walk_at "dz"
      have zb : z < 10 ^ 18 := by
        have e : (10 : Int) ^ Int.toNat 18 = 10 ^ 18 := rfl
        rw [e] at c1
        omega
      rw [v_mul, if_pos (cmul (.inl ⟨by omega, by omega⟩))]
      rw [v_mul, if_pos (cmul (.inl ⟨by omega, by omega⟩))]
      walk_at "dz"
      rw [v_mul, if_pos (cmul (.inl ⟨by omega, by omega⟩))]
      walk_at "dz"
      rw [v_mod, if_pos (by decide)]
      walk_at "dz"
      rw [if_pos (by decide)]
      have fm := fmod_range (z * 48271 + ((k : Int) + 1) * 69621 * ((k : Int) + 7)) (n := 2147483629) (by decide)
      exact ⟨_, rfl, g1.len, g1.trans Gr.new, _, _, at_new, by omega, by omega⟩
end Fz
/-! ### words, rights, groups, as plain values -/
namespace Fz
def letB (c : Nat) : Bool := inS ⟨#[c]⟩ "abcdefghijklmnopqrstuvwxyz"
def wordD : D → Bool
  | .str z => decide (1 ≤ z.length) && (decide (z.length ≤ 8) && z.cps.toList.all letB)
  | _ => false
theorem word_str {z : Str} : wordD (.str z) = (decide (1 ≤ z.length) && (decide (z.length ≤ 8) && z.cps.toList.all letB)) := rfl
theorem is_word_ok {d : D} {S : Store} (h : kdB S d = true) : Ok (F_is_word [d] S) (fun r S' => r = .bl (wordD d) ∧ Gr [] S S') := by
  show Ok (outF (b_is_word [some d, none] S)) _
  unfold b_is_word
  rw [ok_x, okx_out, sp_seq]
  obtain ⟨t, ht⟩ := kd_of h
  cases d with
  | str z =>
    have hz : z.length ≤ 1000000 := of_decide_eq_true h
    walk_at "dy"
    rw [v_lenS (sz_str hz)]
    walk_at "dy"
    by_cases h1 : (1 : Int) ≤ (z.length : Int)
    · rw [decide_eq_true h1]
      by_cases h2 : (z.length : Int) ≤ 8
      · rw [decide_eq_true h2]
        simp only [Bool.not_true, Bool.false_eq_true, if_false]
        have hw : wordD (.str z) = z.cps.toList.all letB := by
          rw [word_str, decide_eq_true (by omega : 1 ≤ z.length), decide_eq_true (by omega : z.length ≤ 8)]
          rfl
        have hl : z.cps.toList.length ≤ 8 := by
          have : z.length = z.cps.size := rfl
          rw [Array.length_toList]
          omega
        refine (ok_map (xs := z.cps.toList.map fun c => D.str ⟨#[c]⟩) (f := fun d => match d with | .str y => .bl (inS y "abcdefghijklmnopqrstuvwxyz") | _ => .non) (by rw [List.length_map]; omega) rfl (fun d S1 hd g => ?_) (fun l S1 hl g hL => ?_)).x fun a S h => h
        · obtain ⟨c, _, rfl⟩ := List.mem_map.mp hd
          walk_at "dy"
          have e : gIn false (.str ⟨#[c]⟩) (.str "abcdefghijklmnopqrstuvwxyz") S1 = .ok (.bl (inS ⟨#[c]⟩ "abcdefghijklmnopqrstuvwxyz")) S1 := by
            show Res.ok (D.bl (inS ⟨#[c]⟩ "abcdefghijklmnopqrstuvwxyz" != false)) S1 = _
            rw [Bool.bne_false]
          rw [e]
          exact ⟨rfl, Gr.refl⟩
        · rw [v_allL (bs := z.cps.toList.map letB) (by rw [hL, List.map_map, List.map_map]; rfl), hw]
          exact ⟨by simp [List.all_map], g⟩
      · rw [decide_eq_false h2]
        simp only [Bool.not_false, if_true]
        refine ⟨?_, Gr.refl⟩
        rw [word_str, decide_eq_false (by omega : ¬ z.length ≤ 8)]
        simp
    · rw [decide_eq_false h1]
      refine ⟨?_, Gr.refl⟩
      rw [word_str, decide_eq_false (by omega : ¬ 1 ≤ z.length)]
      simp
  | obj i =>
    simp only [tyD] at ht
    split at ht
    · rename_i hh
      walk_at "dy"
      rw [ty_l hh]
      exact ⟨rfl, Gr.refl⟩
    · rename_i hh
      walk_at "dy"
      rw [ty_d hh]
      exact ⟨rfl, Gr.refl⟩
    · cases ht
  | glob i => cases ht
  | ty i => cases ht
  | exc => cases ht
  | _ => walk_at "dy"; first | exact Gr.refl | exact ⟨rfl, Gr.refl⟩
/-- each next one is greater -/
def growB (zs : List Str) : Bool := ((List.range (zs.length - 1)).map fun i => ltS (zs.getD i "") (zs.getD (i + 1) "")).all id
def strsD : List D → Option (List Str)
  | [] => some []
  | .str z :: r => (strsD r).map (z :: ·)
  | _ => none
def rightD (d : D) : Bool := match d with
  | .str z => z == "" || (z == "r" || (z == "w" || z == "rw"))
  | _ => false
def rightsD : D → Bool
  | .tup [a, b, c] => rightD a && (rightD b && rightD c)
  | _ => false
end Fz
namespace Fz
theorem are_growing_ok' {S : Store} {v : D} {zs : List Str} (h : itemsD S v = some (zs.map D.str)) (hl : zs.length ≤ 20000) : Ok (F_are_growing [v] S) (fun r S' => r = .bl (growB zs) ∧ Gr [] S S') := by
  show Ok (outF (b_are_growing [some v, none] S)) _
  unfold b_are_growing
  walk_at "dz"
  have hit : jRng2 (aCons (fC (.int 1)) (aCons (fCall gLen (aCons (fVar 0) aNil)) aNil)) [some v, none] S = .ok (.vals (rngD 1 (zs.length - 1))) S := by
    unfold jRng2
    simp only [aCons, aNil, fC, fCall, fVar, Res.bind, List.getElem?_cons_zero, len_items h]
    rw [List.length_map, if_pos ⟨by decide, by decide, by omega, by omega⟩]
    congr 3
    omega
  refine (ok_map (xs := rngD 1 (zs.length - 1)) (f := fun d => match d with | .int k => .bl (ltS (zs.getD (k - 1).toNat "") (zs.getD k.toNat "")) | _ => .non) (by simp [rngD]; omega) hit (fun d S1 hd g => ?_) (fun l S1 hl g hL => ?_)).x fun a S h => h
  · obtain ⟨k, hk, rfl⟩ := List.mem_map.mp hd
    have hk2 := List.mem_range.mp hk
    have h' := items_gr g h
    walk_at "dz"
    rw [ix_items (d := .str (zs.getD k "")) h' (by rw [show (1 : Int) + (k : Int) - 1 = ((k : Nat) : Int) by omega]; exact atI_getD (by omega))]
    walk_at "dz"
    rw [ix_items (d := .str (zs.getD (k + 1) "")) h' (by rw [show (1 : Int) + (k : Int) = ((k + 1 : Nat) : Int) by omega]; exact atI_getD (by omega))]
    refine ⟨?_, Gr.refl⟩
    show D.bl (ltS _ _) = _
    have e1 : ((1 : Int) + (k : Int) - 1).toNat = k := by omega
    have e2 : ((1 : Int) + (k : Int)).toNat = k + 1 := by omega
    simp only [e1, e2]
  · rw [v_allL (bs := (List.range (zs.length - 1)).map fun i => ltS (zs.getD i "") (zs.getD (i + 1) "")) ?_]
    · exact ⟨rfl, g⟩
    · rw [hL]
      unfold rngD
      rw [List.map_map, List.map_map]
      congr 2
      apply List.map_congr_left
      intro k _
      have e1 : ((1 : Int) + (k : Int) - 1).toNat = k := by omega
      have e2 : ((1 : Int) + (k : Int)).toNat = k + 1 := by omega
      simp only [Function.comp, e1, e2]
theorem are_growing_ok {S : Store} {v : D} {zs : List Str} (h : itemsD S v = some (zs.map D.str)) (hl : zs.length ≤ 20000) : OkP (F_are_growing [v] S) (fun r S' => r = .bl (growB zs) ∧ Gr [] S S') := ⟨are_growing_ok' h hl⟩
end Fz
namespace Fz
def usersD : D → Bool
  | .tup xs => xs.all wordD && (match strsD xs with
    | some zs => growB zs
    | none => false)
  | _ => false
def groupD : D → Bool
  | .tup [a, b] => wordD a && usersD b
  | _ => false
def nameD : D → Str
  | .tup (.str z :: _) => z
  | _ => ""
def groupsD : D → Bool
  | .tup xs => decide (xs.length ≤ 8) && (xs.all groupD && growB (xs.map nameD))
  | _ => false
def strD : D → Str
  | .str z => z
  | _ => ""
theorem word_is {d : D} (h : wordD d = true) : d = .str (strD d) := by
  cases d with
  | str z => rfl
  | _ => exact absurd h Bool.false_ne_true
theorem strsD_of (xs : List D) (h : ∀ d ∈ xs, wordD d = true) : xs = (xs.map strD).map D.str := by
  rw [List.map_map]
  exact (List.map_id xs).symm.trans (List.map_congr_left fun d hd => word_is (h d hd))
theorem strsD_map : ∀ zs : List Str, strsD (zs.map D.str) = some zs
  | [] => rfl
  | z :: r => by
    rw [List.map_cons, strsD, strsD_map r]
    rfl
theorem users_tail {xs : List D} {S : Store} (h : xs.length ≤ 20000) (hw : xs.all wordD = true) : OkP (F_are_growing [.tup xs] S) (fun r S' => r = .bl (usersD (.tup xs)) ∧ Gr [] S S') := by
  have e2 := strsD_of xs (List.all_eq_true.mp hw)
  have e1 : strsD xs = some (xs.map strD) := (congrArg strsD e2).trans (strsD_map _)
  have hu : usersD (.tup xs) = growB (xs.map strD) := by simp only [usersD, hw, e1, Bool.true_and]
  rw [hu]
  have hi : itemsD S (.tup xs) = some ((xs.map strD).map D.str) := items_tup.trans (congrArg some e2)
  have hn : (xs.map strD).length ≤ 20000 := by rw [List.length_map]; exact h
  have hh := are_growing_ok (S := S) (v := .tup xs) (zs := xs.map strD) hi hn
  exact hh
theorem are_users_ok {d : D} {S : Store} (h : kdB S d = true) : Ok (F_are_users [d] S) (fun r S' => r = .bl (usersD d) ∧ Gr [] S S') := by
  show Ok (outF (b_are_users [some d, none] S)) _
  unfold b_are_users
  rw [ok_x, okx_out]
  obtain ⟨t, ht⟩ := kd_of h
  cases d with
  | tup xs =>
    simp only [kdB, Bool.and_eq_true, decide_eq_true_eq] at h
    walk_at "dz"
    refine (ok_map (xs := xs) (f := fun d => .bl (wordD d)) (by omega) rfl (fun d S1 hd g => ?_) (fun l S1 hl g hL => ?_)).x fun a S h => h
    · walk_at "dz"
      exact (is_word_ok (kdB_gr g d (kds_mem h.2 hd))).x fun a S h => h
    · rw [v_allL (bs := xs.map wordD) (by rw [hL, List.map_map]; rfl)]
      walk_at "dz"
      have ea : (xs.map wordD).all id = xs.all wordD := by rw [List.all_map]; rfl
      rw [ea]
      cases hw : xs.all wordD with
      | false =>
        rw [if_neg Bool.false_ne_true]
        exact ⟨by simp only [usersD, hw, Bool.false_and], g⟩
      | true =>
        rw [if_pos rfl]
        have k := users_tail (S := S1) h.1 hw
        generalize F_are_growing [D.tup xs] S1 = r at k ⊢
        exact k.x fun a S2 h2 => ⟨h2.1, g.trans h2.2⟩
  | obj i =>
    simp only [tyD] at ht
    split at ht
    · rename_i hh
      walk_at "dz"
      rw [ty_l hh]
      exact ⟨rfl, Gr.refl⟩
    · rename_i hh
      walk_at "dz"
      rw [ty_d hh]
      exact ⟨rfl, Gr.refl⟩
    · cases ht
  | glob i => cases ht
  | ty i => cases ht
  | exc => cases ht
  | _ => walk_at "dz"; first | exact Gr.refl | exact ⟨rfl, Gr.refl⟩
end Fz
namespace Fz
theorem is_group_ok {d : D} {S : Store} (h : kdB S d = true) : Ok (F_is_group [d] S) (fun r S' => r = .bl (groupD d) ∧ Gr [] S S') := by
  show Ok (outF (b_is_group [some d] S)) _
  unfold b_is_group
  rw [ok_x, okx_out]
  have hk := kd_of h
  cases d with
  | tup xs =>
    simp only [kdB, Bool.and_eq_true, decide_eq_true_eq] at h
    walk_at "dz"
    by_cases h2 : xs.length = 2
    · match xs, h2 with
      | [a, b], _ =>
        simp only [kdsB, Bool.and_eq_true] at h
        have e0 : atI [a, b] 0 = some a := rfl
        have e1 : atI [a, b] 1 = some b := rfl
        rw [if_pos (by rfl), e0]
        simp only
        refine (is_word_ok h.2.1).x fun r S1 ⟨e, g⟩ => ?_
        subst e
        walk_at "dz"
        cases hw : wordD a with
        | false =>
          rw [if_neg Bool.false_ne_true]
          exact ⟨by simp only [groupD, hw, Bool.false_and], g⟩
        | true =>
          rw [if_pos rfl, e1]
          simp only
          exact (are_users_ok (kdB_gr g b h.2.2.1)).x fun r S2 ⟨e, g2⟩ => ⟨by rw [e]; simp only [groupD, hw, Bool.true_and], g.trans g2⟩
    · have e : decide ((xs.length : Int) = 2) = false := decide_eq_false (by omega)
      rw [e, if_neg Bool.false_ne_true]
      refine ⟨?_, Gr.refl⟩
      have : groupD (.tup xs) = false := by
        match xs, h2 with
        | [], _ => rfl
        | [_], _ => rfl
        | [_, _], z => exact absurd rfl z
        | _ :: _ :: _ :: _, _ => rfl
      rw [this]
  | obj i =>
    obtain ⟨t, ht⟩ := hk
    simp only [tyD] at ht
    split at ht
    · rename_i hh
      walk_at "dz"
      rw [ty_l hh]
      exact ⟨rfl, Gr.refl⟩
    · rename_i hh
      walk_at "dz"
      rw [ty_d hh]
      exact ⟨rfl, Gr.refl⟩
    · cases ht
  | glob i => cases h
  | ty i => cases h
  | exc => cases h
  | _ => walk_at "dz"; first | exact Gr.refl | exact ⟨rfl, Gr.refl⟩
end Fz
namespace Fz
theorem name_of {d : D} (h : groupD d = true) : ∃ b, d = .tup [.str (nameD d), b] := by
  cases d with
  | tup xs =>
    match xs, h with
    | [a, b], h =>
      simp only [groupD, Bool.and_eq_true] at h
      rw [word_is h.1]
      exact ⟨b, rfl⟩
  | _ => exact absurd h Bool.false_ne_true
theorem is_groups_ok {d : D} {S : Store} (h : kdB S d = true) : Ok (F_is_groups [d] S) (fun r S' => r = .bl (groupsD d) ∧ Gr [] S S') := by
  show Ok (outF (b_is_groups [some d, none] S)) _
  unfold b_is_groups
  rw [ok_x, okx_out, sp_seq]
  have hk := kd_of h
  cases d with
  | tup xs =>
    simp only [kdB, Bool.and_eq_true, decide_eq_true_eq] at h
    walk_at "dy"
    by_cases h8 : xs.length ≤ 8
    · rw [decide_eq_false (by omega : ¬ (8 : Int) < (xs.length : Int))]
      walk_at "dy"
      refine (ok_map (xs := xs) (f := fun d => .bl (groupD d)) (by omega) rfl (fun d S1 hd g => ?_) (fun l S1 hl g hL => ?_)).x fun a S h => h
      · walk_at "dy"
        exact (is_group_ok (kdB_gr g d (kds_mem h.2 hd))).x fun a S h => h
      · rw [v_allL (bs := xs.map groupD) (by rw [hL, List.map_map]; rfl)]
        have ea : (xs.map groupD).all id = xs.all groupD := by rw [List.all_map]; rfl
        rw [ea]
        walk_at "dy"
        cases hw : xs.all groupD with
        | false =>
          simp only [Bool.not_false, if_true]
          exact ⟨by simp only [groupsD, hw, Bool.false_and, Bool.and_false], g⟩
        | true =>
          simp only [Bool.not_true, Bool.false_eq_true, if_false]
          refine (ok_map (xs := xs) (f := fun d => .str (nameD d)) (by omega) rfl (fun d S2 hd g2 => ?_) (fun l2 S2 hl2 g2 hL2 => ?_)).x fun a S h => h
          · have hn := name_of (List.all_eq_true.mp hw d hd)
            generalize nameD d = z at hn ⊢
            obtain ⟨b, rfl⟩ := hn
            walk_at "dy"
            have e0 : atI [D.str z, b] 0 = some (.str z) := rfl
            rw [e0]
            exact ⟨rfl, Gr.refl⟩
          · have hi : itemsD S2 (.obj l2) = some ((xs.map nameD).map D.str) := by rw [items_lst hL2, List.map_map]; rfl
            have k := are_growing_ok hi (by rw [List.length_map]; omega)
            walk_at "dy"
            have hg : groupsD (.tup xs) = growB (xs.map nameD) := by simp only [groupsD, hw, decide_eq_true h8, Bool.true_and]
            rw [hg]
            generalize F_are_growing [D.obj l2] S2 = r at k ⊢
            exact k.x fun a S3 h3 => ⟨h3.1, (g.trans g2).trans h3.2⟩
    · rw [decide_eq_true (by omega : (8 : Int) < (xs.length : Int))]
      walk_at "dy"
      exact ⟨by simp only [groupsD, decide_eq_false h8, Bool.false_and], Gr.refl⟩
  | obj i =>
    obtain ⟨t, ht⟩ := hk
    simp only [tyD] at ht
    split at ht
    · rename_i hh
      walk_at "dy"
      rw [ty_l hh]
      exact ⟨rfl, Gr.refl⟩
    · rename_i hh
      walk_at "dy"
      rw [ty_d hh]
      exact ⟨rfl, Gr.refl⟩
    · cases ht
  | glob i => cases h
  | ty i => cases h
  | exc => cases h
  | _ => walk_at "dy"; first | exact Gr.refl | exact ⟨rfl, Gr.refl⟩
end Fz
namespace Fz
theorem in_rights {z : Str} {S : Store} : gIn false (.str z) (.tup [.str "", .str "r", .str "w", .str "rw"]) S = .ok (.bl (rightD (.str z))) S := by
  show Res.ok (D.bl (inV (.str z) [.str "", .str "r", .str "w", .str "rw"] != false)) S = _
  rw [Bool.bne_false]
  have e : ∀ a : Str, eqV (.str a) (.str z) = (z == a) := fun a => by
    show (a == z) = (z == a)
    rw [Bool.eq_iff_iff, beq_iff_eq, beq_iff_eq]
    exact eq_comm
  simp only [inV, List.any_cons, List.any_nil, Bool.or_false, e]
  rfl
theorem rights3 {xs : List D} (h : xs.length = 3) : rightsD (.tup xs) = xs.all rightD := by
  match xs, h with
  | [a, b, c], _ => simp [rightsD]
theorem rightsN {xs : List D} (h : xs.length ≠ 3) : rightsD (.tup xs) = false := by
  match xs, h with
  | [], _ => rfl
  | [_], _ => rfl
  | [_, _], _ => rfl
  | [_, _, _], z => exact absurd rfl z
  | _ :: _ :: _ :: _ :: _, _ => rfl
theorem is_rights_ok {d : D} {S : Store} (h : kdB S d = true) : Ok (F_is_rights [d] S) (fun r S' => r = .bl (rightsD d) ∧ Gr [] S S') := by
  show Ok (outF (b_is_rights [some d, none] S)) _
  unfold b_is_rights
  rw [ok_x, okx_out, sp_seq]
  have hk := kd_of h
  cases d with
  | tup xs =>
    simp only [kdB, Bool.and_eq_true, decide_eq_true_eq] at h
    walk_at "dy"
    by_cases h3 : xs.length = 3
    · rw [decide_eq_true (by omega : (xs.length : Int) = 3)]
      walk_at "dy"
      rw [rights3 h3]
      refine (ok_map (xs := xs) (f := fun d => .bl (rightD d)) (by omega) rfl (fun d S1 hd g => ?_) (fun l S1 hl g hL => ?_)).x fun a S h => h
      · have hk := kd_of (kdB_gr g d (kds_mem h.2 hd))
        walk_at "dy"
        cases d with
        | str z =>
          walk_at "dy"
          rw [in_rights]
          exact ⟨rfl, Gr.refl⟩
        | obj i =>
          obtain ⟨t, ht⟩ := hk
          simp only [tyD] at ht
          split at ht
          · rename_i hh
            rw [ty_l hh]
            exact ⟨rfl, Gr.refl⟩
          · rename_i hh
            rw [ty_d hh]
            exact ⟨rfl, Gr.refl⟩
          · cases ht
        | glob i => obtain ⟨t, ht⟩ := hk; cases ht
        | ty i => obtain ⟨t, ht⟩ := hk; cases ht
        | exc => obtain ⟨t, ht⟩ := hk; cases ht
        | _ => walk_at "dy"; first | exact Gr.refl | exact ⟨rfl, Gr.refl⟩
      · rw [v_allL (bs := xs.map rightD) (by rw [hL, List.map_map]; rfl)]
        exact ⟨by rw [List.all_map]; rfl, g⟩
    · rw [decide_eq_false (by omega : ¬ (xs.length : Int) = 3)]
      walk_at "dy"
      rw [rightsN h3]
      exact ⟨rfl, Gr.refl⟩
  | obj i =>
    obtain ⟨t, ht⟩ := hk
    simp only [tyD] at ht
    split at ht
    · rename_i hh
      walk_at "dy"
      rw [ty_l hh]
      exact ⟨rfl, Gr.refl⟩
    · rename_i hh
      walk_at "dy"
      rw [ty_d hh]
      exact ⟨rfl, Gr.refl⟩
    · cases ht
  | glob i => cases h
  | ty i => cases h
  | exc => cases h
  | _ => walk_at "dy"; first | exact Gr.refl | exact ⟨rfl, Gr.refl⟩
end Fz
namespace Fz
/-! ### who may -/
theorem flts_strs : ∀ zs : List Str, fltsD (zs.map D.str) = some (zs.map V.str)
  | [] => rfl
  | z :: r => by
    rw [List.map_cons, fltsD, flts_strs r]
    rfl
theorem eqV_str (a z : Str) : eqV (.str a) (.str z) = (z == a) := by
  show (a == z) = (z == a)
  rw [Bool.eq_iff_iff, beq_iff_eq, beq_iff_eq]
  exact eq_comm
theorem inV_strs (z : Str) (zs : List Str) : inV (.str z) (zs.map V.str) = zs.contains z := by
  induction zs with
  | nil => rfl
  | cons a r ih =>
    have e : inV (.str z) ((a :: r).map V.str) = (eqV (.str a) (.str z) || inV (.str z) (r.map V.str)) := rfl
    rw [e, ih, eqV_str, List.contains_cons]
theorem in_strsT {z : Str} {zs : List Str} {S : Store} {n : Bool} : gIn n (.str z) (.tup (zs.map D.str)) S = .ok (.bl (zs.contains z != n)) S := by
  have e : gIn n (.str z) (.tup (zs.map D.str)) S = gInS n (.str z) (.tup (zs.map D.str)) S := rfl
  rw [e]
  unfold gInS
  simp only [itemsD, fltD, flts_strs, inV_strs]
theorem in_strs {S : Store} {v : D} {z : Str} {zs : List Str} {n : Bool} (h : itemsD S v = some (zs.map D.str)) : gIn n (.str z) v S = .ok (.bl (zs.contains z != n)) S := by
  cases v with
  | tup xs => cases h; exact in_strsT
  | flst xs =>
    cases h
    have e : gIn n (.str z) (.flst (zs.map D.str)) S = gInS n (.str z) (.flst (zs.map D.str)) S := rfl
    rw [e]
    unfold gInS
    simp only [itemsD, fltD, flts_strs, inV_strs]
  | obj l =>
    unfold itemsD at h
    simp only at h
    split at h
    · rename_i hh
      cases h
      unfold gIn kvsD gInS itemsD
      simp only [hh, fltD, flts_strs, inV_strs]
    · cases h
  | _ => cases h
end Fz
/-! ### running over a store of which the first part is any -/
namespace Dz
section
variable {S T U : Store} {k : Nat} {o : MO}
theorem ap_ap : (S ++ T) ++ U = S ++ (T ++ U) := List.append_assoc ..
theorem ap_len : (S ++ T).length = S.length + T.length := List.length_append
theorem ap_get : (S ++ T)[S.length + k]? = T[k]? := by rw [List.getElem?_append_right (by omega)]; congr 1; omega
theorem ap_get0 : (S ++ T)[S.length]? = T[0]? := by rw [List.getElem?_append_right (by omega)]; congr 1; omega
theorem ap_set : (S ++ T).set (S.length + k) o = S ++ T.set k o := by rw [List.set_append_right _ _ (by omega)]; congr 2; omega
theorem ap_set0 : (S ++ T).set S.length o = S ++ T.set 0 o := by rw [List.set_append_right _ _ (by omega)]; congr 2; omega
theorem sz_le {n : Nat} (h : n ≤ 1000000) : (n ≤ sizeLine) = True := by
  have : sizeLine = 16777216 := sizeLine_eq
  exact eq_true (by omega)
theorem sz_lt {n : Nat} (h : n ≤ 1000000) : (n < sizeLine) = True := by
  have : sizeLine = 16777216 := sizeLine_eq
  exact eq_true (by omega)
end
end Dz
local macro_rules | `(tactic| walk_at "dm") => `(tactic| try simp only [ap_ap, ap_len, ap_get, ap_get0, ap_set, ap_set0, List.cons_append, List.nil_append, List.length_cons, List.length_nil, Nat.zero_add, Nat.reduceAdd, Nat.add_zero, Nat.add_assoc, List.getElem?_cons_zero, List.getElem?_cons_succ, List.set_cons_zero, List.set_cons_succ, sz_le, sz_lt, Nat.reduceLeDiff])
local macro_rules | `(tactic| walk_at "dx") => `(tactic| try simp (config := { maxSteps := 4000000 }) only [gList, itemsD, gInt, fDisp1, fDisp, fPairs, keyD, mergeD, List.foldl, putD, List.any_nil, sp_seq, beq_self_eq_true, ap_ap, ap_len, ap_get, ap_get0, ap_set, ap_set0, List.cons_append, List.nil_append, Nat.add_zero, Nat.add_assoc, sz_le, sz_lt, gAdd, gCount, gIndex, listD, boolsD, Option.bind, Option.map, okx_ok, okx_if, tyO, fIsP, ok_x, okx_out, okx_bind, okx_ok, okx_exc, okx_bad, okx_if, sp_nx, sp_rt, sp_bk, sp_ct, sp_ex, sp_bad, sp_if, x_var, x_c, x_op, x_un, x_call, x_callN, x_callD, x_callK, x_nil, x_cons, x_tup, x_lst, x_not, x_and, x_or, x_tst, x_andV, x_orV, x_notV, x_ifE, x_sl, x_pn, x_ps, x_mt, x_chain, x_dnew,
  sp_rng1, s_expr_x, s_ret_x, s_retN_x, s_next_x, s_break_x, s_cont_x, s_if_x, s_asg_x, s_asgT_x, s_par_x, s_par3_x, s_setix_x, s_raise_x, tg_name, tg_nil, tg_cons, tg_tup, v_addI, v_sub, v_neg, v_ltI, v_leI, v_gtI, v_geI, v_isN, v_isnN, v_isB, v_isnB, v_eqI, v_neI, v_eqS, v_neS, v_isi, v_max, v_min, v_ixT, v_ixF, v_lenT, v_lenF, ty_NoneType_int, ty_NoneType_str, ty_NoneType_bool, ty_NoneType_tuple, ty_NoneType_list, ty_NoneType_dict, ty_bool_int, ty_bool_str, ty_bool_bool, ty_bool_tuple, ty_bool_list, ty_bool_dict, ty_int_int, ty_int_str, ty_int_bool, ty_int_tuple, ty_int_list, ty_int_dict, ty_str_int, ty_str_str, ty_str_bool, ty_str_tuple, ty_str_list, ty_str_dict, ty_tuple_int, ty_tuple_str, ty_tuple_bool, ty_tuple_tuple, ty_tuple_list, ty_tuple_dict, ty_list_int, ty_list_str, ty_list_bool, ty_list_tuple, ty_list_list, ty_list_dict, ty_dict_int, ty_dict_str, ty_dict_bool, ty_dict_tuple, ty_dict_list, ty_dict_dict, tya_int, tya_str, tya_bool, tya_tuple, tya_list, tya_dict, ty_i, ty_b, ty_s, ty_n, ty_t, ty_f, t_bl, t_int, t_nonx, t_tup,
  List.getElem?_cons_zero, List.getElem?_cons_succ, List.set_cons_zero, List.set_cons_succ, List.length_cons, List.length_nil, Nat.zero_add, Nat.reduceAdd, Nat.reduceLeDiff, if_true, if_false, ite_true, ite_false, Bool.not_true, Bool.not_false, decide_true, decide_false, reduceCtorEq, wipeE, and_self, and_true, true_and, reduceIte, Nat.reduceEqDiff, Option.some.injEq, Bool.false_eq_true])
local macro_rules | `(tactic| walk_at "dw") => `(tactic| try simp (config := { maxSteps := 4000000 }) only [gList, itemsD, gInt, fDisp1, fDisp, fPairs, keyD, mergeD, List.foldl, putD, List.any_nil, beq_self_eq_true, ap_ap, ap_len, ap_get, ap_get0, ap_set, ap_set0, List.cons_append, List.nil_append, Nat.add_zero, Nat.add_assoc, sz_le, sz_lt, gAdd, gCount, gIndex, listD, boolsD, Option.bind, Option.map, okx_ok, okx_if, tyO, fIsP, ok_x, okx_out, okx_bind, okx_ok, okx_exc, okx_bad, okx_if, sp_nx, sp_rt, sp_bk, sp_ct, sp_ex, sp_bad, sp_if, x_var, x_c, x_op, x_un, x_call, x_callN, x_callD, x_callK, x_nil, x_cons, x_tup, x_lst, x_not, x_and, x_or, x_tst, x_andV, x_orV, x_notV, x_ifE, x_sl, x_pn, x_ps, x_mt, x_chain, x_dnew,
  sp_rng1, s_expr_x, s_ret_x, s_retN_x, s_next_x, s_break_x, s_cont_x, s_if_x, s_asg_x, s_asgT_x, s_par_x, s_par3_x, s_setix_x, s_raise_x, tg_name, tg_nil, tg_cons, tg_tup, v_addI, v_sub, v_neg, v_ltI, v_leI, v_gtI, v_geI, v_isN, v_isnN, v_isB, v_isnB, v_eqI, v_neI, v_eqS, v_neS, v_isi, v_max, v_min, v_ixT, v_ixF, v_lenT, v_lenF, ty_NoneType_int, ty_NoneType_str, ty_NoneType_bool, ty_NoneType_tuple, ty_NoneType_list, ty_NoneType_dict, ty_bool_int, ty_bool_str, ty_bool_bool, ty_bool_tuple, ty_bool_list, ty_bool_dict, ty_int_int, ty_int_str, ty_int_bool, ty_int_tuple, ty_int_list, ty_int_dict, ty_str_int, ty_str_str, ty_str_bool, ty_str_tuple, ty_str_list, ty_str_dict, ty_tuple_int, ty_tuple_str, ty_tuple_bool, ty_tuple_tuple, ty_tuple_list, ty_tuple_dict, ty_list_int, ty_list_str, ty_list_bool, ty_list_tuple, ty_list_list, ty_list_dict, ty_dict_int, ty_dict_str, ty_dict_bool, ty_dict_tuple, ty_dict_list, ty_dict_dict, tya_int, tya_str, tya_bool, tya_tuple, tya_list, tya_dict, ty_i, ty_b, ty_s, ty_n, ty_t, ty_f, t_bl, t_int, t_nonx, t_tup,
  List.getElem?_cons_zero, List.getElem?_cons_succ, List.set_cons_zero, List.set_cons_succ, List.length_cons, List.length_nil, Nat.zero_add, Nat.reduceAdd, Nat.reduceLeDiff, if_true, if_false, ite_true, ite_false, Bool.not_true, Bool.not_false, decide_true, decide_false, reduceCtorEq, wipeE, and_self, and_true, true_and, reduceIte, Nat.reduceEqDiff, Option.some.injEq, Bool.false_eq_true])
namespace Fz
/-- xs[_law_take(purse, n)] -/
theorem pick_ix {p l n : Nat} {xs : List D} {S : Store} {Q : D → Store → Prop} {E : Str → List (Str × D) → Store → Prop} (hp : Pu S p) (hl : S[l]? = some (.lst xs)) (ne : l ≠ p) (h0 : 0 < n) (h1 : n ≤ xs.length) (h2 : n < 1000000) (k : ∀ v ∈ xs.take n, ∀ S2, Go2 p S S2 → Q v S2) : OkX (F__law_take [.obj p, .int (n : Nat)] S) (fun e S2 => OkX (gIx (.obj l) e S2) Q E) E := by
  refine (take_ok hp (by omega) (by omega)).x fun a S2 ⟨z, e, z0, z1, g⟩ => ?_
  subst e
  rw [v_ixL (g.at hl ne)]
  have hz : z.toNat < xs.length := by omega
  have ea : atI xs z = some xs[z.toNat] := by
    unfold atI ixN
    rw [if_pos z0, if_pos (by omega)]
    exact List.getElem?_eq_getElem hz
  rw [ea]
  exact k _ (List.mem_iff_getElem.mpr ⟨z.toNat, by rw [List.length_take]; omega, by rw [List.getElem_take]⟩) S2 g
end Fz
namespace Fz
theorem repr_of {S : Store} {d : D} {p : PyData} (h : shD 20 S d = some p) (h2 : (good true p = true ∨ good false p = true) ∧ wt p ≤ 1000000 ∧ p.depth ≤ 60) : gRepr [d] S = .ok (.str p.shown) S := by
  unfold gRepr
  simp only [h]
  rw [if_pos h2]
end Fz
namespace Fz
/-! ### pure data of a fair size -/
structure Pd (h w : Nat) (d : D) (pd : PyData) : Prop where
  kd : ∀ S, kdB S d = true
  sh : ∀ S n, shD (h + n) S d = some pd
  gd : ∀ k, good k pd = true
  wt : wt pd ≤ w
  dp : pd.depth ≤ h
theorem Pd.repr {h w : Nat} {d : D} {pd : PyData} (p : Pd h w d pd) (hh : h ≤ 20) (hw : w ≤ 1000000) (S : Store) : gRepr [d] S = .ok (.str pd.shown) S := by
  have e : shD 20 S d = some pd := by
    have := p.sh S (20 - h)
    rw [show h + (20 - h) = 20 by omega] at this
    exact this
  exact repr_of e ⟨.inl (p.gd true), Nat.le_trans p.wt hw, Nat.le_trans p.dp (by omega)⟩
theorem Pd.str {z : Str} {w : Nat} (h1 : ∀ c ∈ z.cps.toList, c < 16 ^ 8) (h2 : 10 * z.length + 2 ≤ w) (h3 : w ≤ 1000000) : Pd 1 w (.str z) (.str z) where
  kd := fun S => decide_eq_true (by omega)
  sh := fun S n => by rw [show 1 + n = n + 1 by omega]; rfl
  gd := fun _ => by
    show (z.cps.toList.all fun c => decide (c < 16 ^ 8)) = true
    rw [List.all_eq_true]
    exact fun c hc => decide_eq_true (h1 c hc)
  wt := h2
  dp := by show (0 : Nat) ≤ 1; decide
theorem Pd.up {h w k v : Nat} {d : D} {pd : PyData} (p : Pd h w d pd) (hk : h ≤ k) (hv : w ≤ v) : Pd k v d pd where
  kd := p.kd
  sh := fun S n => by rw [show k + n = h + (k - h + n) by omega]; exact p.sh S _
  gd := p.gd
  wt := Nat.le_trans p.wt hv
  dp := Nat.le_trans p.dp hk
theorem pd_all {h w : Nat} : ∀ {xs : List D}, (∀ x ∈ xs, ∃ pd, Pd h w x pd) → ∃ ps : List PyData, ps.length = xs.length ∧ (∀ S, kdsB S xs = true) ∧ (∀ S n, xs.mapM (shD (h + n) S) = some ps) ∧ (∀ p ∈ ps, (∀ k, good k p = true) ∧ Fz.wt p ≤ w ∧ p.depth ≤ h)
  | [], _ => ⟨[], rfl, fun _ => rfl, fun _ _ => rfl, fun _ h => nomatch h⟩
  | x :: xs, hx => by
    obtain ⟨pd, p⟩ := hx x (List.mem_cons_self ..)
    obtain ⟨ps, h1, h2, h3, h4⟩ := pd_all fun y hy => hx y (List.mem_cons_of_mem _ hy)
    refine ⟨pd :: ps, by rw [List.length_cons, List.length_cons, h1], fun S => ?_, fun S n => ?_, fun q hq => ?_⟩
    · simp only [kdsB, p.kd S, h2 S, Bool.and_self]
    · rw [List.mapM_cons, p.sh S n, h3 S n]; rfl
    · rcases List.mem_cons.mp hq with rfl | hq
      · exact ⟨p.gd, p.wt, p.dp⟩
      · exact h4 q hq
theorem depthAll_leP {h : Nat} : ∀ {ps : List PyData}, (∀ p ∈ ps, p.depth ≤ h) → PyData.depthAll ps ≤ h
  | [], _ => by simp [PyData.depthAll]
  | p :: ps, hp => by
    have h1 := hp p (List.mem_cons_self ..)
    have h2 := depthAll_leP fun q hq => hp q (List.mem_cons_of_mem _ hq)
    simp only [PyData.depthAll]
    omega
theorem Pd.tup {h w n : Nat} {xs : List D} (hx : ∀ x ∈ xs, ∃ pd, Pd h w x pd) (hn : xs.length ≤ n) (h3 : n ≤ 20000) : ∃ pd, Pd (h + 1) (3 + n * (w + 2)) (.tup xs) pd := by
  obtain ⟨ps, h1, h2, h4, h5⟩ := pd_all hx
  refine ⟨.tuple ps, fun S => ?_, fun S k => ?_, ?_, ?_, ?_⟩
  · simp only [kdB, h2 S, Bool.and_true, decide_eq_true_eq]
    omega
  · rw [show h + 1 + k = (h + k) + 1 by omega]
    simp only [shD, h4 S k]
    rfl
  · exact fun k => goodAll_of fun p hp => (h5 p hp).1 k
  · have := wtAll_le fun p hp => (h5 p hp).2.1
    show 3 + wtAll ps ≤ _
    rw [h1] at this
    have h6 : xs.length * (w + 2) ≤ n * (w + 2) := Nat.mul_le_mul_right _ hn
    omega
  · have := depthAll_leP fun p hp => (h5 p hp).2.2
    simp only [PyData.depth]
    omega
theorem Pd.two {h w v : Nat} {a b : D} {pa pb : PyData} (p : Pd h w a pa) (q : Pd h v b pb) : Pd (h + 1) (7 + w + v) (.tup [a, b]) (.tuple [pa, pb]) where
  kd := fun S => by
    have hl : [a, b].length ≤ 20000 := by show 2 ≤ 20000; decide
    simp only [kdB, kdsB, p.kd S, q.kd S, Bool.and_self, Bool.and_true, decide_eq_true hl]
  sh := fun S k => by
    rw [show h + 1 + k = (h + k) + 1 by omega]
    simp only [shD, List.mapM_cons, List.mapM_nil, p.sh S k, q.sh S k]
    rfl
  gd := fun k => goodAll_of fun x hx => by
    simp only [List.mem_cons, List.not_mem_nil, or_false] at hx
    rcases hx with rfl | rfl
    · exact p.gd k
    · exact q.gd k
  wt := by
    have h1 := p.wt
    have h2 := q.wt
    show 3 + wtAll [pa, pb] ≤ _
    simp only [wtAll]
    omega
  dp := by
    have h1 := p.dp
    have h2 := q.dp
    simp only [PyData.depth, PyData.depthAll]
    omega
end Fz
namespace Fz
/-! ### letters, growing rows of words -/
theorem letB_range {c : Nat} (h : letB c = true) : 97 ≤ c ∧ c ≤ 122 := by
  unfold letB inS at h
  rw [PySem.StrLaws.found_iff] at h
  obtain ⟨i, hi, hs⟩ := h
  have hi' : i < 26 := by
    have e1 : ("abcdefghijklmnopqrstuvwxyz" : Str).length = 26 := by decide
    have e2 : (⟨#[c]⟩ : Str).length = 1 := rfl
    omega
  unfold Builtin.Str.subAt at hs
  have hs := congrArg Array.toList (eq_of_beq hs)
  have e : ∀ i : Nat, i < 26 → (("abcdefghijklmnopqrstuvwxyz" : Str).cps.extract i (i + 1)).toList = [97 + i] := by decide
  have e2 : (⟨#[c]⟩ : Str).length = 1 := rfl
  rw [e2, e i hi'] at hs
  have : 97 + i = c := (List.cons.inj hs).1
  omega
def ltr (k : Nat) : Str := ⟨#[97 + k]⟩
theorem abc_get : ∀ k : Nat, k < 26 → ("abcdefghijklmnopqrstuvwxyz" : Str).cps.toList[k]? = some (97 + k) := by decide
theorem ix_abc {i : Int} {S : Store} (h0 : 0 ≤ i) (h1 : i < 26) : gIx (.str "abcdefghijklmnopqrstuvwxyz") (.int i) S = .ok (.str (ltr i.toNat)) S := by
  have e : gIx (.str "abcdefghijklmnopqrstuvwxyz") (.int i) S = ixD (.str "abcdefghijklmnopqrstuvwxyz") (.int i) S := rfl
  rw [e]
  unfold ixD
  simp only
  rw [if_pos (by decide)]
  have e2 : atI ("abcdefghijklmnopqrstuvwxyz" : Str).cps.toList i = some (97 + i.toNat) := by
    unfold atI ixN
    have hl : ("abcdefghijklmnopqrstuvwxyz" : Str).cps.toList.length = 26 := by decide
    rw [hl, if_pos h0, if_pos (by omega)]
    exact abc_get _ (by omega)
  rw [e2]
  rfl
theorem ltS_irr (a : Str) : ltS a a = false := decide_eq_false (List.lt_irrefl _)
theorem ltZ_S (a b : Str) : ltZ a b = ltS a b := ltZ_iff
theorem sortF_pair (l : List Str) : (sortF l).Pairwise (fun a b => ltZ b a = false) := isort_pair ltZ_negtrans ltZ_asymm l
theorem lt_of_ne {a b : Str} (h : ltZ b a = false) (n : a ≠ b) : ltS a b = true := by
  rw [← ltZ_S]
  cases e : ltZ a b with
  | true => rfl
  | false => exact absurd (ltZ_anti a b e h) n
theorem sortF_strict {l : List Str} (h : l.Nodup) : (sortF l).Pairwise (fun a b => ltS a b = true) := by
  have h1 := sortF_pair l
  have h2 : (sortF l).Nodup := (sortF_perm l).nodup_iff.mpr h
  refine (List.pairwise_and_iff.mpr ⟨h1, h2⟩).imp fun ⟨x, y⟩ => lt_of_ne x y
theorem grow_of {zs : List Str} (h : zs.Pairwise (fun a b => ltS a b = true)) : growB zs = true := by
  unfold growB
  rw [List.all_eq_true]
  intro b hb
  obtain ⟨i, hi, rfl⟩ := List.mem_map.mp hb
  rw [List.mem_range] at hi
  have := List.pairwise_iff_getElem.mp h i (i + 1) (by omega) (by omega) (by omega)
  simp only [id, List.getD_eq_getElem?_getD, List.getElem?_eq_getElem (show i < zs.length by omega), List.getElem?_eq_getElem (show i + 1 < zs.length by omega), Option.getD_some]
  exact this
theorem ltS_trans {a b c : Str} (h1 : ltS a b = true) (h2 : ltS b c = true) : ltS a c = true := by
  unfold ltS at *
  rw [decide_eq_true_eq] at *
  exact List.lt_trans h1 h2
theorem pair_of_grow : ∀ {zs : List Str}, growB zs = true → zs.Pairwise (fun a b => ltS a b = true) := by
  intro zs h
  unfold growB at h
  rw [List.all_eq_true] at h
  have st : ∀ i, (hi : i + 1 < zs.length) → ltS zs[i] zs[i + 1] = true := fun i hi => by
    have := h _ (List.mem_map.mpr ⟨i, List.mem_range.mpr (by omega), rfl⟩)
    simp only [id, List.getD_eq_getElem?_getD, List.getElem?_eq_getElem (show i < zs.length by omega), List.getElem?_eq_getElem hi, Option.getD_some] at this
    exact this
  rw [List.pairwise_iff_getElem]
  intro i j hi hj hij
  obtain ⟨d, rfl⟩ : ∃ d, j = i + 1 + d := ⟨j - i - 1, by omega⟩
  clear hij
  induction d with
  | zero => exact st i hj
  | succ d ih =>
    have h1 := ih (by omega)
    have h2 := st (i + 1 + d) (by omega)
    exact ltS_trans h1 h2
theorem nodup_of_grow {zs : List Str} (h : growB zs = true) : zs.Nodup := (pair_of_grow h).imp fun {a b} h e => by
  rw [e, ltS_irr] at h
  cases h
theorem sortF_mem {l : List Str} {k : Str} : k ∈ sortF l ↔ k ∈ l := (sortF_perm l).mem_iff
theorem sortF_len {l : List Str} : (sortF l).length = l.length := (sortF_perm l).length_eq
/-- a word of small signs -/
structure Wd (z : Str) : Prop where
  word : wordD (.str z) = true
  len : z.length ≤ 8
  low : ∀ c ∈ z.cps.toList, 97 ≤ c ∧ c ≤ 122
theorem Wd.pd {z : Str} (h : Wd z) : Pd 1 82 (.str z) (.str z) := Pd.str (fun c hc => by have := h.low c hc; omega) (by have := h.len; omega) (by decide)
theorem wd_of {z : Str} (h : wordD (.str z) = true) : Wd z := by
  have k := h
  rw [word_str] at k
  simp only [Bool.and_eq_true, decide_eq_true_eq, List.all_eq_true] at k
  exact ⟨h, k.2.1, fun c hc => letB_range (k.2.2 c hc)⟩
end Fz
namespace Dz
theorem i_obj {fa : Fe} {ρ : Env} {S S1 : Store} {l : Nat} {xs : List D} (h : fa ρ S = .ok (.obj l) S1) (hl : S1[l]? = some (.lst xs)) : iSeq fa ρ S = .ok (.lst l) S1 := by unfold iSeq; rw [h]; simp only [Res.bind, hl]
end Dz
namespace Fz
theorem loc_pu {p n : Nat} (h : p < n) : Loc n (fun S => Pu S p) := fun _ _ hAB ⟨a, b, e, z⟩ => ⟨a, b, by rw [hAB p h]; exact e, z⟩
/-- a comprehension in which the purse alone goes on -/
theorem ok_lcP {p : Nat} {S : Store} (hp : Pu S p) {xs : List D} {it : Dz.Env → Store → Res ItD} {tg : Ft} {fe : Fe} {ρ : Dz.Env} {js : List Nat} {T : Nat → D → D → Prop} {Q : D → Store → Prop} (hx : xs.length ≤ 1000000) (hit : it ρ S = .ok (.vals xs) S)
    (turn : ∀ i d S1, xs[i]? = some d → Go2 p S S1 → Ok (tg d (wipeE ρ js) S1) fun ρ1 S2 => Ok (fe ρ1 S2) fun y S4 => T i d y ∧ Go2 p S1 S4)
    (fin : ∀ (l : Nat) (ys : List D) S1, S.length ≤ l → ys.length = xs.length → (∀ i d y, xs[i]? = some d → ys[i]? = some y → T i d y) → Go2 p S S1 → S1[l]? = some (.lst ys) → Q (.obj l) S1) : Ok (fLc it tg ttYes fe js ρ S) Q :=
  ok_lc (W := [p]) (I := fun S' => Pu S' p) (by simpa using hp.lt) (loc_pu hp.lt) hx hp hit (fun i d S1 hd g pu => (turn i d S1 hd ⟨g, pu⟩).mono fun ρ1 S2 h => h.mono fun y S4 ⟨a, b⟩ => ⟨a, b.gr, b.pu⟩) fun l ys S1 a b c d e f => fin l ys S1 a b c ⟨d, e⟩ f
end Fz
namespace Fz
/-! ### rows of words compared -/
theorem Wd.strOk {z : Str} (h : Wd z) : PyData.strOk z = true := by
  unfold PyData.strOk
  rw [Array.all_eq_true_iff_forall_mem]
  intro c hc
  have := h.low c (Array.mem_def.mp hc)
  simp only [decide_eq_true_eq]
  omega
theorem pys_strs : ∀ zs : List Str, pysD (zs.map D.str) = some (zs.map PyData.str)
  | [] => rfl
  | z :: r => by rw [List.map_cons, pysD, pys_strs r]; rfl
theorem canLay_strs : ∀ zs : List Str, (∀ z ∈ zs, PyData.strOk z = true) → PyData.canLayAll0 (zs.map PyData.str) = true
  | [], _ => by simp [PyData.canLayAll0]
  | z :: r, h => by
    have h1 := h z (List.mem_cons_self ..)
    have h2 := canLay_strs r fun y hy => h y (List.mem_cons_of_mem _ hy)
    rw [List.map_cons]
    simp [PyData.canLayAll0, PyData.canLay0, h1, h2]
theorem shaped_strs {zs : List Str} (h : ∀ z ∈ zs, PyData.strOk z = true) : SeqAt.shaped (.list (zs.map PyData.str)) = true := by
  have h1 := canLay_strs zs h
  have h2 : PyData.depthAll (zs.map PyData.str) = 0 := by
    clear h h1
    induction zs with
    | nil => simp [PyData.depthAll]
    | cons z r ih => simp [PyData.depthAll, PyData.depth, ih]
  simp [SeqAt.shaped, PyData.canLay0, PyData.depth, h1, h2]
theorem eqvAll_strs : ∀ xs ys : List Str, PyData.eqvAll (xs.map PyData.str) (ys.map PyData.str) = decide (xs = ys)
  | [], [] => rfl
  | [], _ :: _ => rfl
  | _ :: _, [] => rfl
  | x :: xs, y :: ys => by
    rw [List.map_cons, List.map_cons, PyData.eqvAll, eqvAll_strs xs ys, PyData.eqv]
    by_cases h : x = y
    · by_cases h2 : xs = ys
      · simp [h, h2]
      · simp [h, h2]
    · simp [h]
theorem eq_strsL {n : Bool} {S : Store} {l k : Nat} {xs ys : List Str} {QD : D → Store → Prop} {E : Str → List (Str × D) → Store → Prop} (h1 : S[l]? = some (.lst (xs.map D.str))) (h2 : S[k]? = some (.lst (ys.map D.str))) (w1 : ∀ z ∈ xs, PyData.strOk z = true) (w2 : ∀ z ∈ ys, PyData.strOk z = true) : OkX (gEqv n (.obj l) (.obj k) S) QD E = QD (.bl (decide (xs = ys) != n)) S := by
  rw [eq_lst h1 h2 (pys_strs xs) (pys_strs ys) (shaped_strs w1) (shaped_strs w2), eqvAll_strs]
/-- a row is the sorted row of its words just where it grows -/
theorem sort_iff (zs : List Str) : decide (zs = sortF (nubS zs)) = growB zs := by
  cases h : growB zs with
  | true =>
    refine decide_eq_true ?_
    have hp := pair_of_grow h
    have hn := nodup_of_grow h
    have pm : zs.Perm (nubS zs) := perm_of_mem hn (nubS_nodup zs) fun k => (nubS_mem zs k).symm
    refine isort_eq ltZ_negtrans ltZ_asymm ltZ_anti pm (hp.imp fun {a b} hab => ?_)
    exact ltZ_asymm a b (by rw [ltZ_S]; exact hab)
  | false =>
    refine decide_eq_false fun e => ?_
    rw [e, grow_of (sortF_strict (nubS_nodup zs))] at h
    cases h
end Fz
namespace Fz
theorem right_has (z : Str) : rightD (.str z) = (["", "r", "w", "rw"] : List Str).contains z := by
  simp only [rightD, List.contains_cons, List.contains_nil, Bool.or_false]
theorem law_word_eq : F__law_is_word = F_is_word := rfl
theorem law_rights_ok {d : D} {S : Store} (h : kdB S d = true) : Ok (F__law_are_rights [d] S) (fun r S' => r = .bl (rightsD d) ∧ Gr [] S S') := by
  show Ok (outF (b__law_are_rights [some d, none] S)) _
  unfold b__law_are_rights
  rw [ok_x, okx_out, sp_seq]
  have hk := kd_of h
  cases d with
  | tup xs =>
    simp only [kdB, Bool.and_eq_true, decide_eq_true_eq] at h
    walk_at "dy"
    by_cases h3 : xs.length = 3
    · rw [decide_eq_true (by omega : (xs.length : Int) = 3)]
      walk_at "dy"
      rw [rights3 h3]
      refine (ok_map (xs := xs) (f := fun d => .bl (rightD d)) (by omega) rfl (fun d S1 hd g => ?_) (fun l S1 hl g hL => ?_)).x fun a S h => h
      · have hk := kd_of (kdB_gr g d (kds_mem h.2 hd))
        walk_at "dy"
        cases d with
        | str z =>
          walk_at "dy"
          rw [if_pos (by decide), in_strs (zs := ["", "r", "w", "rw"]) (by unfold itemsD; simp only [at_new]; rfl)]
          exact ⟨by rw [right_has]; simp, Gr.new⟩
        | obj i =>
          obtain ⟨t, ht⟩ := hk
          simp only [tyD] at ht
          split at ht
          · rename_i hh
            rw [ty_l hh]
            exact ⟨rfl, Gr.refl⟩
          · rename_i hh
            rw [ty_d hh]
            exact ⟨rfl, Gr.refl⟩
          · cases ht
        | glob i => obtain ⟨t, ht⟩ := hk; cases ht
        | ty i => obtain ⟨t, ht⟩ := hk; cases ht
        | exc => obtain ⟨t, ht⟩ := hk; cases ht
        | _ => walk_at "dy"; first | exact Gr.refl | exact ⟨rfl, Gr.refl⟩
      · rw [v_allL (bs := xs.map rightD) (by rw [hL, List.map_map]; rfl)]
        exact ⟨by rw [List.all_map]; rfl, g⟩
    · rw [decide_eq_false (by omega : ¬ (xs.length : Int) = 3)]
      walk_at "dy"
      rw [rightsN h3]
      exact ⟨rfl, Gr.refl⟩
  | obj i =>
    obtain ⟨t, ht⟩ := hk
    simp only [tyD] at ht
    split at ht
    · rename_i hh
      walk_at "dy"
      rw [ty_l hh]
      exact ⟨rfl, Gr.refl⟩
    · rename_i hh
      walk_at "dy"
      rw [ty_d hh]
      exact ⟨rfl, Gr.refl⟩
    · cases ht
  | glob i => cases h
  | ty i => cases h
  | exc => cases h
  | _ => walk_at "dy"; first | exact Gr.refl | exact ⟨rfl, Gr.refl⟩
end Fz
namespace Fz
/-- few users in a group -/
def fewB : D → Bool
  | .tup [_, .tup ys] => decide (ys.length ≤ 63)
  | _ => true
def fewsB : D → Bool
  | .tup xs => xs.all fewB
  | _ => true
/-- the groups one by one -/
def goB : Str → List D → Bool
  | _, [] => true
  | a, x :: r => groupD x && (ltS a (nameD x) && goB (nameD x) r)
theorem goB_iff : ∀ (xs : List D) (a : Str), goB a xs = true ↔ (∀ x ∈ xs, groupD x = true) ∧ (a :: xs.map nameD).Pairwise (fun a b => ltS a b = true)
  | [], a => by simp [goB]
  | x :: r, a => by
    rw [goB, Bool.and_eq_true, Bool.and_eq_true, goB_iff r]
    constructor
    · rintro ⟨h1, h2, h3, h4⟩
      refine ⟨fun y hy => (List.mem_cons.mp hy).elim (fun e => e ▸ h1) (h3 y), ?_⟩
      rw [List.map_cons]
      refine List.pairwise_cons.mpr ⟨fun z hz => ?_, h4⟩
      rcases List.mem_cons.mp hz with e | e
      · rw [e]; exact h2
      · exact ltS_trans h2 ((List.pairwise_cons.mp h4).1 z e)
    · rintro ⟨h1, h2⟩
      rw [List.map_cons] at h2
      obtain ⟨h3, h4⟩ := List.pairwise_cons.mp h2
      exact ⟨h1 x (List.mem_cons_self ..), h3 _ (List.mem_cons_self ..), fun y hy => h1 y (List.mem_cons_of_mem _ hy), h4⟩
theorem lt_nil {z : Str} (h : wordD (.str z) = true) : ltS "" z = true := by
  rw [word_str] at h
  simp only [Bool.and_eq_true, decide_eq_true_eq] at h
  unfold ltS
  rw [decide_eq_true_eq]
  have h1 : z.cps.toList ≠ [] := by
    intro e
    have h2 : z.length = z.cps.toList.length := by simp [Str.length]
    rw [h2, e] at h
    exact absurd h.1 (by decide)
  show [] < z.cps.toList
  cases e : z.cps.toList with
  | nil => exact absurd e h1
  | cons a b => exact List.nil_lt_cons ..
theorem name_word {d : D} (h : groupD d = true) : wordD (.str (nameD d)) = true := by
  cases d with
  | tup ys =>
    match ys, h with
    | [a, b], h1 =>
      simp only [groupD, Bool.and_eq_true] at h1
      have e := word_is h1.1
      have e2 : nameD (.tup [a, b]) = strD a := by rw [e]; rfl
      rw [e2, ← e]
      exact h1.1
  | _ => exact absurd h Bool.false_ne_true
theorem goB_groups {xs : List D} (h8 : xs.length ≤ 8) : groupsD (.tup xs) = goB "" xs := by
  rw [Bool.eq_iff_iff, goB_iff]
  simp only [groupsD, Bool.and_eq_true, decide_eq_true_eq, List.all_eq_true]
  constructor
  · rintro ⟨_, h1, h2⟩
    refine ⟨h1, List.pairwise_cons.mpr ⟨fun z hz => ?_, pair_of_grow h2⟩⟩
    obtain ⟨d, hd, rfl⟩ := List.mem_map.mp hz
    exact lt_nil (name_word (h1 d hd))
  · rintro ⟨h1, h2⟩
    exact ⟨h8, h1, grow_of (List.pairwise_cons.mp h2).2⟩
theorem v_leS {a b : Str} {S : Store} {QD : D → Store → Prop} {E : Str → List (Str × D) → Store → Prop} : OkX (gLe (.str a) (.str b) S) QD E = QD (.bl (!ltS b a)) S := by have h := @Eq.refl Prop; exact h _
theorem v_listT {xs : List D} {S : Store} {QD : D → Store → Prop} {E : Str → List (Str × D) → Store → Prop} : OkX (gList [.tup xs] S) QD E = QD (.obj S.length) (S ++ [.lst xs]) := by have h := @Eq.refl Prop; exact h _
theorem v_ssetT {S : Store} {xs : List D} {zs : List Str} {QD : D → Store → Prop} {E : Str → List (Str × D) → Store → Prop} (h : xs = zs.map D.str) (h2 : zs.length < 64) : OkX (gSset [.tup xs] S) QD E = QD (.obj S.length) (S ++ [.lst ((sortF (nubS zs)).map D.str)]) := by
  subst h
  unfold gSset seqD
  simp only [Option.bind, Dz.strsD_map]
  rw [if_pos h2]
  rfl
/-- one turn -/
theorem groups_turn {x d : D} {a : Str} {r3 : Option D} {S : Store} {P : Po} (h : kdB S x = true) (hf : fewB x = true)
    (hno : ∀ S1, (groupD x && ltS a (nameD x)) = false → Gr [] S S1 → P.rt (.bl false) S1)
    (hyes : ∀ S1, groupD x = true → ltS a (nameD x) = true → Gr [] S S1 → P.nx [some d, some (.str (nameD x)), some x, r3] S1) :
    SP ((sSeq (sIf (fOr (fNot (tst (fCall gIsi (aCons (fVar 2) (aCons (fC (.ty "tuple")) aNil))))) (fOr (tst (fOp gNe (fCall gLen (aCons (fVar 2) aNil)) (fC (.int 2)))) (fOr (fNot (tst (fCallN 1 F__law_is_word (aCons (fOp gIx (fVar 2) (fC (.int 0))) aNil)))) (fNot (tst (fCall gIsi (aCons (fOp gIx (fVar 2) (fC (.int 1))) (aCons (fC (.ty "tuple")) aNil))))))))
 (sRet (fC (.bl false)))
 sNext)
 (sSeq (sIf (fOr (tst (fOp gLe (fOp gIx (fVar 2) (fC (.int 0))) (fVar 1))) (fNot (tst (fCall (gAll true) (aCons (fLc (iSeq (fOp gIx (fVar 2) (fC (.int 1)))) (tgName 3) ttYes (fCallN 1 F__law_is_word (aCons (fVar 3) aNil)) [3]) aNil)))))
 (sRet (fC (.bl false)))
 sNext)
 (sSeq (sIf (tst (fOp gNe (fCall gList (aCons (fOp gIx (fVar 2) (fC (.int 1))) aNil)) (fCall gSset (aCons (fOp gIx (fVar 2) (fC (.int 1))) aNil))))
 (sRet (fC (.bl false)))
 sNext)
 (sAsg (fOp gIx (fVar 2) (fC (.int 0))) (tgName 1))))) [some d, some (.str a), some x, r3] S) P := by
  have hk := kd_of h
  rw [sp_seq]
  cases x with
  | tup ys =>
    simp only [kdB, Bool.and_eq_true, decide_eq_true_eq] at h
    walk_at "dy"
    by_cases h2 : ys.length = 2
    · match ys, h2 with
      | [b, c], _ =>
        simp only [kdsB, Bool.and_eq_true] at h
        have e0 : atI [b, c] 0 = some b := rfl
        have e1 : atI [b, c] 1 = some c := rfl
        rw [show decide ((([b, c] : List D).length : Int) = 2) = true from rfl]
        walk_at "dy"
        simp only [e0]
        rw [law_word_eq]
        refine (is_word_ok h.2.1).x fun r S1 ⟨e, g⟩ => ?_
        subst e
        walk_at "dy"
        cases hw : wordD b with
        | false =>
          walk_at "dy"
          exact hno S1 (by simp only [groupD, hw, Bool.false_and]) g
        | true =>
          walk_at "dy"
          try simp only [e1]
          have hkc := kdB_gr g c h.2.2.1
          have hkc2 := kd_of hkc
          cases c with
          | tup ws =>
            walk_at "dy"
            try rw [sp_seq]
            try walk_at "dy"
            try simp only [e0]
            obtain ⟨z, rfl⟩ : ∃ z, b = .str z := ⟨_, word_is hw⟩
            have hnb : ltS a z = false → P.rt (.bl false) S1 := fun hl => hno S1 (by rw [show nameD (.tup [.str z, .tup ws]) = z from rfl, hl, Bool.and_false]) g
            rw [v_leS]
            walk_at "dy"
            cases hl : ltS a z with
            | false =>
              walk_at "dy"
              exact hnb hl
            | true =>
              walk_at "dy"
              simp only [kdB, Bool.and_eq_true, decide_eq_true_eq] at hkc
              refine (ok_map (xs := ws) (f := fun d => .bl (wordD d)) (by omega) rfl (fun d S2 hd g2 => ?_) (fun l S2 hl2 g2 hL => ?_)).x fun a S h => h
              · walk_at "dy"
                try rw [law_word_eq]
                exact (is_word_ok (kdB_gr g2 d (kds_mem hkc.2 hd))).x fun a S h => h
              · rw [v_allL (bs := ws.map wordD) (by rw [hL, List.map_map]; rfl)]
                have ea : (ws.map wordD).all id = ws.all wordD := by rw [List.all_map]; rfl
                rw [ea]
                walk_at "dy"
                cases ha : ws.all wordD with
                | false =>
                  walk_at "dy"
                  exact hno S2 (by simp only [groupD, usersD, ha, Bool.false_and, Bool.and_false]) (g.trans g2)
                | true =>
                  walk_at "dy"
                  try rw [sp_seq]
                  try walk_at "dy"
                  try simp only [e1]
                  have hfw : ws.length ≤ 63 := by simpa [fewB] using hf
                  have haw : ∀ d ∈ ws, wordD d = true := fun d hd => List.all_eq_true.mp ha d hd
                  have hws : ws = (ws.map strD).map D.str := strsD_of ws haw
                  have hu : groupD (.tup [.str z, .tup ws]) = growB (ws.map strD) := by
                    have e : usersD (.tup ws) = growB (ws.map strD) := by
                      simp only [usersD, ha, Bool.true_and]
                      rw [hws, strsD_map, ← hws]
                    simp only [groupD, hw, Bool.true_and, e]
                  have hwz : ∀ y ∈ ws.map strD, Wd y := fun y hy => by
                    obtain ⟨d, hd, rfl⟩ := List.mem_map.mp hy
                    have := haw d hd
                    rw [word_is this] at this
                    exact wd_of this
                  rw [v_listT, v_ssetT hws (by rw [List.length_map]; omega)]
                  show OkX (gEqv true _ _ _) _ _
                  rw [eq_strsL (xs := ws.map strD) (by rw [← hws]; exact Gr.new.at0 at_new) at_new (fun y hy => (hwz y hy).strOk) (fun y hy => (hwz y ((nubS_mem _ _).mp (sortF_mem.mp hy))).strOk), sort_iff]
                  walk_at "dy"
                  have g3 : ∀ o1 o2 : MO, Gr [] S (S2 ++ [o1] ++ [o2]) := fun o1 o2 => ((g.trans g2).trans Gr.new).trans Gr.new
                  cases hgz : growB (ws.map strD) with
                  | false =>
                    walk_at "dy"
                    exact hno _ (by rw [hu, hgz, Bool.false_and]) (g3 _ _)
                  | true =>
                    try walk_at "dy"
                    try simp only [e0]
                    exact hyes _ (by rw [hu, hgz]) hl (g3 _ _)
          | obj i =>
            obtain ⟨t, ht⟩ := hkc2
            simp only [tyD] at ht
            split at ht
            · rename_i hh
              rw [ty_l hh]
              walk_at "dy"
              exact hno S1 (by simp only [groupD, usersD, Bool.and_false, Bool.false_and]) g
            · rename_i hh
              rw [ty_d hh]
              walk_at "dy"
              exact hno S1 (by simp only [groupD, usersD, Bool.and_false, Bool.false_and]) g
            · cases ht
          | glob i => cases hkc
          | ty i => cases hkc
          | exc => cases hkc
          | _ => walk_at "dy"; exact hno S1 (by simp only [groupD, usersD, Bool.and_false, Bool.false_and]) g
    · rw [decide_eq_false (by omega : ¬ (ys.length : Int) = 2)]
      walk_at "dy"
      refine hno S ?_ Gr.refl
      have : groupD (.tup ys) = false := by
        match ys, h2 with
        | [], _ => rfl
        | [_], _ => rfl
        | [_, _], z => exact absurd rfl z
        | _ :: _ :: _ :: _, _ => rfl
      rw [this]; rfl
  | obj i =>
    obtain ⟨t, ht⟩ := hk
    simp only [tyD] at ht
    split at ht
    · rename_i hh
      walk_at "dy"
      rw [ty_l hh]
      walk_at "dy"
      exact hno S rfl Gr.refl
    · rename_i hh
      walk_at "dy"
      rw [ty_d hh]
      walk_at "dy"
      exact hno S rfl Gr.refl
    · cases ht
  | glob i => cases h
  | ty i => cases h
  | exc => cases h
  | _ => walk_at "dy"; exact hno S rfl Gr.refl
end Fz
namespace Fz
theorem law_groups_ok {d : D} {S : Store} (h : kdB S d = true) (hf : fewsB d = true) : OkP (F__law_are_groups [d] S) (fun r S' => r = .bl (groupsD d) ∧ Gr [] S S') := by
  refine ⟨?_⟩
  show Ok (outF (b__law_are_groups [some d, none, none, none] S)) _
  unfold b__law_are_groups
  rw [ok_x, okx_out, sp_seq]
  have hk := kd_of h
  cases d with
  | tup xs =>
    simp only [kdB, Bool.and_eq_true, decide_eq_true_eq] at h
    walk_at "dy"
    by_cases h8 : xs.length ≤ 8
    · rw [decide_eq_false (by omega : ¬ (8 : Int) < (xs.length : Int))]
      walk_at "dy"
      rw [sp_seq]
      walk_at "dy"
      rw [sp_seq]
      rw [goB_groups h8]
      refine sp_forI (W := []) (fun i ρ S1 => ∃ a r2 r3, ρ = [some (.tup xs), some (.str a), r2, r3] ∧ Gr [] S S1 ∧ goB "" xs = goB a (xs.drop i)) (v := .tup xs) rfl rfl (by simp) (fun i ρ S1 ⟨_, _, _, _, g, _⟩ => g) ⟨"", _, _, rfl, Gr.refl, rfl⟩ (fun i x ρ S1 hx ⟨a, r2, r3, e, g, hb⟩ => ?_) (fun ρ S1 ⟨a, r2, r3, e, g, hb⟩ => ?_)
      · subst e
        have hm : x ∈ xs := List.mem_of_getElem? hx
        have hd : xs.drop i = x :: xs.drop (i + 1) := by
          have hi := (List.getElem?_eq_some_iff.mp hx)
          obtain ⟨h1, h2⟩ := hi
          rw [List.drop_eq_getElem_cons h1, h2]
        rw [hd, goB] at hb
        show SP _ _
        refine groups_turn (kdB_gr g x (kds_mem h.2 hm)) ((List.all_eq_true.mp hf) x hm) (fun S2 hn g2 => ?_) (fun S2 h1 h2 g2 => ?_)
        · refine ⟨?_, g.trans g2⟩
          rw [hb, ← Bool.and_assoc, hn, Bool.false_and]
        · refine ⟨_, _, _, rfl, g.trans g2, ?_⟩
          rw [hb, h1, h2, Bool.true_and, Bool.true_and]
      · subst e
        walk_at "dy"
        refine ⟨?_, g⟩
        rw [hb, List.drop_length]
        rfl
    · rw [decide_eq_true (by omega : (8 : Int) < (xs.length : Int))]
      walk_at "dy"
      exact ⟨by simp only [groupsD, decide_eq_false h8, Bool.false_and], Gr.refl⟩
  | obj i =>
    obtain ⟨t, ht⟩ := hk
    simp only [tyD] at ht
    split at ht
    · rename_i hh
      walk_at "dy"
      rw [ty_l hh]
      exact ⟨rfl, Gr.refl⟩
    · rename_i hh
      walk_at "dy"
      rw [ty_d hh]
      exact ⟨rfl, Gr.refl⟩
    · cases ht
  | glob i => cases h
  | ty i => cases h
  | exc => cases h
  | _ => walk_at "dy"; first | exact Gr.refl | exact ⟨rfl, Gr.refl⟩
/-! ### things with a telling, as long as the purse alone goes on -/
structure Mx (p : Nat) (k : Bool) (h w : Nat) (S : Store) (d : D) : Prop where
  ex : ∃ pd : PyData, (∀ S', Gr [p] S S' → kdB S' d = true ∧ ∀ n, shD (h + n) S' d = some pd) ∧ good k pd = true ∧ wt pd ≤ w ∧ pd.depth ≤ h
theorem Mx.go {p : Nat} {k : Bool} {h w : Nat} {S S1 : Store} {d : D} (x : Mx p k h w S d) (g : Gr [p] S S1) : Mx p k h w S1 d := by
  obtain ⟨pd, a, b⟩ := x.ex
  exact ⟨pd, fun S' g' => a S' (g.trans g'), b⟩
theorem Mx.up {p : Nat} {k : Bool} {h w h2 w2 : Nat} {S : Store} {d : D} (x : Mx p k h w S d) (hh : h ≤ h2) (hw : w ≤ w2) : Mx p k h2 w2 S d := by
  obtain ⟨pd, a, b, c, e⟩ := x.ex
  refine ⟨pd, fun S' g' => ⟨(a S' g').1, fun n => ?_⟩, b, Nat.le_trans c hw, Nat.le_trans e hh⟩
  rw [show h2 + n = h + (h2 - h + n) by omega]
  exact (a S' g').2 _
theorem Pd.mx {p : Nat} {k : Bool} {h w : Nat} {S : Store} {d : D} {pd : PyData} (x : Pd h w d pd) : Mx p k h w S d := ⟨pd, fun S' _ => ⟨x.kd S', fun n => x.sh S' n⟩, x.gd k, x.wt, x.dp⟩
theorem mx_all {p : Nat} {k : Bool} {h w : Nat} {S : Store} : ∀ {xs : List D}, (∀ x ∈ xs, Mx p k h w S x) → ∃ ps : List PyData, ps.length = xs.length ∧ (∀ S', Gr [p] S S' → kdsB S' xs = true ∧ ∀ n, xs.mapM (shD (h + n) S') = some ps) ∧ (∀ q ∈ ps, good k q = true ∧ Fz.wt q ≤ w ∧ q.depth ≤ h)
  | [], _ => ⟨[], rfl, fun _ _ => ⟨rfl, fun _ => rfl⟩, fun _ h => nomatch h⟩
  | x :: xs, hx => by
    obtain ⟨pd, a, b, c, e⟩ := (hx x (List.mem_cons_self ..)).ex
    obtain ⟨ps, h1, h2, h4⟩ := mx_all fun y hy => hx y (List.mem_cons_of_mem _ hy)
    refine ⟨pd :: ps, by rw [List.length_cons, List.length_cons, h1], fun S' g => ⟨?_, fun n => ?_⟩, fun q hq => ?_⟩
    · simp only [kdsB, (a S' g).1, (h2 S' g).1, Bool.and_self]
    · rw [List.mapM_cons, (a S' g).2 n, (h2 S' g).2 n]; rfl
    · rcases List.mem_cons.mp hq with rfl | hq
      · exact ⟨b, c, e⟩
      · exact h4 q hq
theorem Mx.tup {p : Nat} {k : Bool} {h w n : Nat} {S : Store} {xs : List D} (hx : ∀ x ∈ xs, Mx p k h w S x) (hn : xs.length ≤ n) (h3 : n ≤ 1000) : Mx p k (h + 1) (3 + n * (w + 2)) S (.tup xs) := by
  obtain ⟨ps, h1, h2, h5⟩ := mx_all hx
  refine ⟨.tuple ps, fun S' g => ⟨?_, fun m => ?_⟩, ?_, ?_, ?_⟩
  · simp only [kdB, (h2 S' g).1, Bool.and_true, decide_eq_true_eq]
    omega
  · rw [show h + 1 + m = (h + m) + 1 by omega]
    simp only [shD, (h2 S' g).2 m]
    rfl
  · exact goodAll_of fun q hq => (h5 q hq).1
  · have := wtAll_le fun q hq => (h5 q hq).2.1
    show 3 + wtAll ps ≤ _
    rw [h1] at this
    have h6 : xs.length * (w + 2) ≤ n * (w + 2) := Nat.mul_le_mul_right _ hn
    omega
  · have := depthAll_leP fun q hq => (h5 q hq).2.2
    simp only [PyData.depth]
    omega
theorem Mx.lst {p l : Nat} {h w n : Nat} {S : Store} {xs : List D} (hl : S[l]? = some (.lst xs)) (ne : l ≠ p) (hx : ∀ x ∈ xs, Mx p true h w S x) (hn : xs.length ≤ n) : Mx p true (h + 1) (3 + n * (w + 2)) S (.obj l) := by
  obtain ⟨ps, h1, h2, h5⟩ := mx_all hx
  refine ⟨.list ps, fun S' g => ?_, ?_, ?_, ?_⟩
  · have hl2 := g.at hl (by simpa using ne)
    refine ⟨by unfold kdB; simp only [hl2], fun m => ?_⟩
    rw [show h + 1 + m = (h + m) + 1 by omega]
    simp only [shD, hl2, (h2 S' g).2 m]
    rfl
  · show (true && goodAll true ps) = true
    rw [Bool.true_and]
    exact goodAll_of fun q hq => (h5 q hq).1
  · have := wtAll_le fun q hq => (h5 q hq).2.1
    show 3 + wtAll ps ≤ _
    rw [h1] at this
    have h6 : xs.length * (w + 2) ≤ n * (w + 2) := Nat.mul_le_mul_right _ hn
    omega
  · have := depthAll_leP fun q hq => (h5 q hq).2.2
    simp only [PyData.depth]
    omega
theorem Mx.dict {p l : Nat} {S : Store} (hl : S[l]? = some (.dict [])) (ne : l ≠ p) : Mx p false 1 5 S (.obj l) := by
  refine ⟨.dict [], fun S' g => ?_, rfl, by decide, by decide⟩
  have hl2 := g.at hl (by simpa using ne)
  refine ⟨by unfold kdB; simp only [hl2], fun m => ?_⟩
  rw [show 1 + m = m + 1 by omega]
  simp only [shD, hl2]
  rfl
theorem Mx.repr {p : Nat} {k : Bool} {h w : Nat} {S : Store} {d : D} (x : Mx p k h w S d) (hh : h ≤ 20) (hw : w ≤ 1000000) : ∃ t : Str, ∀ S', Gr [p] S S' → gRepr [d] S' = .ok (.str t) S' := by
  obtain ⟨pd, a, b, c, e⟩ := x.ex
  refine ⟨pd.shown, fun S' g => repr_of ?_ ⟨?_, Nat.le_trans c hw, by omega⟩⟩
  · have := (a S' g).2 (20 - h)
    rw [show h + (20 - h) = 20 by omega] at this
    exact this
  · cases k with
    | true => exact .inl b
    | false => exact .inr b
theorem Mx.kd {p : Nat} {k : Bool} {h w : Nat} {S : Store} {d : D} (x : Mx p k h w S d) : kdB S d = true := by
  obtain ⟨pd, a, _⟩ := x.ex
  exact (a S Gr.refl).1
end Fz
/-! ### law k02: what is told of a thing -/
namespace Fz
/-- a thing that is asked -/
structure Th (p : Nat) (S : Store) (d : D) : Prop where
  mx : ∃ k, Mx p k 12 900000 S d
  few : fewsB d = true
theorem Th.go {p : Nat} {S S1 : Store} {d : D} (h : Th p S d) (g : Gr [p] S S1) : Th p S1 d := ⟨h.mx.elim fun k x => ⟨k, x.go g⟩, h.few⟩
theorem ne_two {S : Store} {l q : Nat} {b c : Bool} {QD : D → Store → Prop} {E : Str → List (Str × D) → Store → Prop} (h1 : S[l]? = some (.lst [.bl b, .bl c])) (h2 : S[q]? = some (.lst [.bl b, .bl c])) : OkX (gNe (.obj l) (.obj q) S) QD E = QD (.bl false) S := by
  have e1 : pysD [D.bl b, D.bl c] = some [PyData.bool b, .bool c] := rfl
  have e2 : SeqAt.shaped (.list [PyData.bool b, .bool c]) = true := by cases b <;> cases c <;> decide +kernel
  have e3 : PyData.eqvAll [PyData.bool b, .bool c] [PyData.bool b, .bool c] = true := by cases b <;> cases c <;> decide +kernel
  unfold gNe
  rw [eq_lst h1 h2 e1 e1 e2 e2, e3]
  rfl
theorem told_ok {p : Nat} {d : D} {S : Store} (h : Th p S d) : Ok (F__law_told [d] S) fun v S' => v = .bl true ∧ Gr [] S S' := by
  obtain ⟨k, mx⟩ := h.mx
  obtain ⟨t, ht⟩ := mx.repr (by decide) (by decide)
  have kd : ∀ S', Gr [] S S' → kdB S' d = true := fun S' g => (mx.go g.w).kd
  show Ok (outF (b__law_told [some d, none, none, none, none] S)) _
  unfold b__law_told
  rw [ok_x, okx_out, sp_seq]
  walk_at "dy"
  rw [ht S Gr.refl, okx_ok]
  try walk_at "dy"
  rw [sp_seq]
  try walk_at "dy"
  refine (law_rights_ok (kd S Gr.refl)).x fun v S1 ⟨e, g1⟩ => ?_
  subst e
  try walk_at "dy"
  have k1 := law_groups_ok (kd S1 g1) h.few
  generalize F__law_are_groups [d] S1 = q at k1 ⊢
  refine k1.x fun v S2 ⟨e, g2⟩ => ?_
  subst e
  clear k1 q
  try walk_at "dy"
  have hsz : sizeLine = 16777216 := sizeLine_eq
  rw [if_pos (by omega)]
  have hD : (S2 ++ [MO.lst [D.bl (rightsD d), D.bl (groupsD d)]])[S2.length]? = some (.lst [.bl (rightsD d), .bl (groupsD d)]) := at_new
  have gA : Gr [] S (S2 ++ [MO.lst [D.bl (rightsD d), D.bl (groupsD d)]]) := (g1.trans g2).trans Gr.new
  generalize S2 ++ [MO.lst [D.bl (rightsD d), D.bl (groupsD d)]] = S3 at hD gA ⊢
  generalize S2.length = q at hD ⊢
  clear g1 g2
  rw [sp_seq]
  refine sp_forX ?_
  try walk_at "dy"
  refine (is_rights_ok (kd S3 gA)).x fun v S4 ⟨e, g4⟩ => ?_
  subst e
  try walk_at "dy"
  refine (is_groups_ok (kd S4 (gA.trans g4))).x fun v S5 ⟨e, g5⟩ => ?_
  subst e
  try walk_at "dy"
  rw [if_pos (by omega)]
  have hE : (S5 ++ [MO.lst [D.bl (rightsD d), D.bl (groupsD d)]])[S5.length]? = some (.lst [.bl (rightsD d), .bl (groupsD d)]) := at_new
  have gB : Gr [] S3 (S5 ++ [MO.lst [D.bl (rightsD d), D.bl (groupsD d)]]) := (g4.trans g5).trans Gr.new
  generalize S5 ++ [MO.lst [D.bl (rightsD d), D.bl (groupsD d)]] = S6 at hE gB ⊢
  generalize S5.length = q1 at hE ⊢
  clear g4 g5
  have er : gd_is_rights_0_thing ([] : List D) [d] = [d] := rfl
  have eg : gd_is_groups_0_thing ([] : List D) [d] = [d] := rfl
  try simp only [er, eg]
  try walk_at "dy"
  refine (is_rights_ok (kd S6 (gA.trans gB))).x fun v S7 ⟨e, g7⟩ => ?_
  subst e
  refine (is_groups_ok (kd S7 ((gA.trans gB).trans g7))).x fun v S8 ⟨e, g8⟩ => ?_
  subst e
  rw [if_pos (by omega), if_pos (by omega)]
  have hF : (S8 ++ [MO.lst [D.bl (rightsD d), D.bl (groupsD d)]])[S8.length]? = some (.lst [.bl (rightsD d), .bl (groupsD d)]) := at_new
  have gC : Gr [] S6 (S8 ++ [MO.lst [D.bl (rightsD d), D.bl (groupsD d)]]) := (g7.trans g8).trans Gr.new
  generalize S8 ++ [MO.lst [D.bl (rightsD d), D.bl (groupsD d)]] = S9 at hF gC ⊢
  generalize S8.length = q2 at hF ⊢
  clear g7 g8
  have hG : (S9 ++ [MO.lst [D.obj q1, D.obj q2]])[S9.length]? = some (.lst [.obj q1, .obj q2]) := at_new
  have gD : Gr [] S9 (S9 ++ [MO.lst [D.obj q1, D.obj q2]]) := Gr.new
  generalize S9 ++ [MO.lst [D.obj q1, D.obj q2]] = S10 at hG gD ⊢
  generalize S9.length = q3 at hG ⊢
  have h0 := gD.at0 (gC.at0 (gB.at0 hD))
  have h1 := gD.at0 (gC.at0 hE)
  have h2 := gD.at0 hF
  have gE : Gr [] S S10 := ((gA.trans gB).trans gC).trans gD
  clear gA gB gC gD hD hE hF
  refine sp_forI (W := []) (xs := [.obj q1, .obj q2]) (fun i ρ S1 => (∃ y3 y4, ρ = [some d, some (.str t), some (.obj q), y3, y4]) ∧ Gr [] S10 S1) rfl (by unfold itemsD; simp only [hG]) (by simp) (fun _ _ _ h => h.2) ⟨⟨_, _, rfl⟩, Gr.refl⟩ ?_ ?_
  · rintro i x ρ S1 hx ⟨⟨y3, y4, rfl⟩, g⟩
    obtain ⟨r, rfl, hr⟩ : ∃ r, x = .obj r ∧ S10[r]? = some (.lst [.bl (rightsD d), .bl (groupsD d)]) := by
      match i, hx with
      | 0, hx => cases hx; exact ⟨_, rfl, h1⟩
      | 1, hx => cases hx; exact ⟨_, rfl, h2⟩
    rw [ok_x]
    try walk_at "dy"
    have hr1 := g.at0 hr
    refine (ok_mapL (S := S1) (q := r) (xs := [.bl (rightsD d), .bl (groupsD d)]) (f := fun _ => .bl true) (Q := fun v S' => ∃ l, v = .obj l ∧ S'[l]? = some (.lst [.bl true, .bl true]) ∧ Gr [] S1 S') (by show (2 : Nat) ≤ 1000000; decide) (i_obj rfl hr1) hr1 (fun x2 S2 hx2 g2 => ?_) (fun l S2 hl g2 hL => ⟨l, rfl, hL, g2⟩)).x fun v S2 ⟨l, ev, hL, g2⟩ => ?_
    · rw [ok_x]
      try walk_at "dy"
      simp only [List.mem_cons, List.not_mem_nil, or_false] at hx2
      rcases hx2 with rfl | rfl
      · exact ⟨rfl, Gr.refl⟩
      · exact ⟨rfl, Gr.refl⟩
    · subst ev
      rw [v_allL (bs := [true, true]) hL]
      try walk_at "dy"
      rw [ne_two (g2.at0 hr1) (g2.at0 (g.at0 h0))]
      try walk_at "dy"
      have ea : ([true, true] : List Bool).all id = true := rfl
      rw [ea]
      exact ⟨⟨_, _, rfl⟩, g.trans g2⟩
  · rintro ρ S1 ⟨⟨y3, y4, rfl⟩, g⟩
    try walk_at "dy"
    rw [ht S1 (gE.trans g).w, okx_ok]
    try walk_at "dy"
    exact gE.trans g
end Fz
/-! ### law k02: things that are drawn -/
namespace Fz
theorem pd_non : Pd 1 82 .non .none where
  kd := fun S => rfl
  sh := fun S n => by rw [show 1 + n = n + 1 by omega]; rfl
  gd := fun _ => rfl
  wt := by decide
  dp := by decide
theorem pd_bl {b : Bool} : Pd 1 82 (.bl b) (.bool b) where
  kd := fun S => rfl
  sh := fun S n => by rw [show 1 + n = n + 1 by omega]; rfl
  gd := fun _ => rfl
  wt := by cases b <;> decide
  dp := by show (0 : Nat) ≤ 1; decide
theorem pd_i0 : Pd 1 82 (.int 0) (.int 0) where
  kd := fun S => rfl
  sh := fun S n => by rw [show 1 + n = n + 1 by omega]; rfl
  gd := fun k => by cases k <;> decide +kernel
  wt := by decide +kernel
  dp := by decide
theorem pd_i7 : Pd 1 82 (.int 7) (.int 7) where
  kd := fun S => rfl
  sh := fun S n => by rw [show 1 + n = n + 1 by omega]; rfl
  gd := fun k => by cases k <;> decide +kernel
  wt := by decide +kernel
  dp := by decide
/-- a thing of any kind, small -/
structure OddQ (p : Nat) (S : Store) (d : D) : Prop where
  mx : ∃ k, Mx p k 4 500 S d
  f1 : fewsB d = true
  f2 : fewB d = true
theorem OddQ.go {p : Nat} {S S1 : Store} {d : D} (h : OddQ p S d) (g : Gr [p] S S1) : OddQ p S1 d := ⟨h.mx.elim fun k x => ⟨k, x.go g⟩, h.f1, h.f2⟩
section
variable {p : Nat} {S S1 : Store} {d : D}
theorem odd_ok (hp : Pu S p) : Ok (F__law_odd [.obj p] S) fun v S' => OddQ p S' v ∧ Go2 p S S' := by
  show Ok (outF (b__law_odd [some (.obj p), none] S)) _
  unfold b__law_odd
  have lp := hp.lt
  have hsz : sizeLine = 16777216 := sizeLine_eq
  rw [ok_x, okx_out, sp_seq]
  walk_at "dy"
  iterate 11 rw [if_pos (by omega)]
  have g1 : Gr [] S (S ++ [MO.lst []]) := Gr.new
  have e1 : (S ++ [MO.lst []])[S.length]? = some (.lst []) := at_new
  have l1 : (S ++ [MO.lst []]).length = S.length + 1 := by rw [List.length_append] <;> rfl
  generalize S ++ [MO.lst []] = S1 at g1 e1 l1 ⊢
  have g2 : Gr [] S1 (S1 ++ [MO.dict []]) := Gr.new
  have e2 : (S1 ++ [MO.dict []])[S1.length]? = some (.dict []) := at_new
  have l2 : (S1 ++ [MO.dict []]).length = S1.length + 1 := by rw [List.length_append] <;> rfl
  generalize S1 ++ [MO.dict []] = S2 at g2 e2 l2 ⊢
  have g3 : Gr [] S2 (S2 ++ [MO.lst [D.str "rw", D.str "r", D.str "r"]]) := Gr.new
  have e3 : (S2 ++ [MO.lst [D.str "rw", D.str "r", D.str "r"]])[S2.length]? = some (.lst [D.str "rw", D.str "r", D.str "r"]) := at_new
  have l3 : (S2 ++ [MO.lst [D.str "rw", D.str "r", D.str "r"]]).length = S2.length + 1 := by rw [List.length_append] <;> rfl
  generalize S2 ++ [MO.lst [D.str "rw", D.str "r", D.str "r"]] = S3 at g3 e3 l3 ⊢
  have g4 : Gr [] S3 (S3 ++ [MO.lst []]) := Gr.new
  have e4 : (S3 ++ [MO.lst []])[S3.length]? = some (.lst []) := at_new
  have l4 : (S3 ++ [MO.lst []]).length = S3.length + 1 := by rw [List.length_append] <;> rfl
  generalize S3 ++ [MO.lst []] = S4 at g4 e4 l4 ⊢
  have G4 : Gr [] S S4 := g1.trans (g2.trans (g3.trans g4))
  refine pick_ix (n := 15) (hp.gr (G4.trans Gr.new)) at_new (by omega) (by decide) (Nat.le_of_ble_eq_true rfl) (by decide) fun v hv S6 g6 => ⟨?_, (Go2.of hp (G4.trans Gr.new)).trans g6⟩
  have G6 : Gr [p] S4 S6 := Gr.new.trans g6.gr
  have h1 := (g2.trans (g3.trans g4)).at0 e1
  have h2 := (g3.trans g4).at0 e2
  have h3 := g4.at0 e3
  have sm : ∀ z : Str, z.length ≤ 8 → (∀ c ∈ z.cps.toList, c < 1000) → ∀ k, Mx p k 1 82 S4 (.str z) := fun z a b k => (Pd.str (fun c hc => by have := b c hc; omega) (by omega) (by decide)).mx
  suffices h : OddQ p S4 v from h.go G6
  have str : ∀ z : Str, z.length ≤ 8 → (∀ c ∈ z.cps.toList, c < 1000) → OddQ p S4 (.str z) := fun z a b => ⟨⟨true, (sm z a b true).up (by decide) (by decide)⟩, rfl, rfl⟩
  simp only [List.take, List.mem_cons, List.not_mem_nil, or_false] at hv
  rcases hv with rfl | rfl | rfl | rfl | rfl | rfl | rfl | rfl | rfl | rfl | rfl | rfl | rfl | rfl | rfl
  · exact ⟨⟨true, pd_non.mx.up (by decide) (by decide)⟩, rfl, rfl⟩
  · exact ⟨⟨true, pd_bl.mx.up (by decide) (by decide)⟩, rfl, rfl⟩
  · exact ⟨⟨true, pd_i0.mx.up (by decide) (by decide)⟩, rfl, rfl⟩
  · exact ⟨⟨true, pd_i7.mx.up (by decide) (by decide)⟩, rfl, rfl⟩
  · exact str _ (by decide) (by decide)
  · exact str _ (by decide) (by decide)
  · exact ⟨⟨true, (Mx.lst (h := 1) (w := 82) (n := 0) h1 (by omega) (by simp) (by simp)).up (by decide) (by decide)⟩, rfl, rfl⟩
  · exact ⟨⟨false, (Mx.dict h2 (by omega)).up (by decide) (by decide)⟩, rfl, rfl⟩
  · exact ⟨⟨true, (Mx.tup (h := 1) (w := 82) (n := 0) (by simp) (by simp) (by decide)).up (by decide) (by decide)⟩, rfl, rfl⟩
  · exact ⟨⟨true, (Mx.tup (h := 1) (w := 82) (n := 1) (fun x hx => by rw [List.mem_singleton] at hx; subst hx; exact sm _ (by decide) (by decide) true) (by simp) (by decide)).up (by decide) (by decide)⟩, rfl, rfl⟩
  · refine ⟨⟨true, (Mx.tup (h := 1) (w := 82) (n := 2) (fun x hx => ?_) (by simp) (by decide)).up (by decide) (by decide)⟩, rfl, rfl⟩
    simp only [List.mem_cons, List.not_mem_nil, or_false] at hx
    rcases hx with rfl | rfl <;> exact sm _ (by decide) (by decide) true
  · refine ⟨⟨true, (Mx.lst (h := 1) (w := 82) (n := 3) h3 (by omega) (fun x hx => ?_) (by simp)).up (by decide) (by decide)⟩, rfl, rfl⟩
    simp only [List.mem_cons, List.not_mem_nil, or_false] at hx
    rcases hx with rfl | rfl | rfl <;> exact sm _ (by decide) (by decide) true
  · refine ⟨⟨true, (Mx.tup (h := 2) (w := 3) (n := 1) (fun x hx => ?_) (by simp) (by decide)).up (by decide) (by decide)⟩, rfl, rfl⟩
    rw [List.mem_singleton] at hx
    subst hx
    exact Mx.lst (h := 1) (w := 82) (n := 0) e4 (by omega) (by simp) (by simp)
  · refine ⟨⟨true, (Mx.tup (h := 2) (w := 171) (n := 1) (fun x hx => ?_) (by simp) (by decide)).up (by decide) (by decide)⟩, rfl, rfl⟩
    rw [List.mem_singleton] at hx
    subst hx
    refine Mx.tup (h := 1) (w := 82) (n := 2) (fun y hy => ?_) (by simp) (by decide)
    simp only [List.mem_cons, List.not_mem_nil, or_false] at hy
    rcases hy with rfl | rfl
    · exact sm _ (by decide) (by decide) true
    · exact (Mx.tup (h := 0) (w := 0) (n := 0) (by simp) (by simp) (by decide)).up (by decide) (by decide)
  · exact str _ (by decide) (by decide)
end
end Fz
/-! ### law k02: words, groups of them -/
namespace Fz
def stemsW : List Str := ["", "ab", "roo", "zzzzzzz"]
theorem stem_wd : ∀ s ∈ stemsW, ∀ j : Nat, j < 26 → wordD (.str (s ++ ltr j)) = true := by decide +kernel
section
variable {p : Nat} {S S1 : Store} {d : D} {n : Int}
theorem gSorted2_strs {l : Nat} {ws : List Str} (h : S[l]? = some (.lst (ws.map D.str))) : gSorted2 [.obj l] S = .ok (.obj S.length) (S ++ [.lst ((sortF ws).map D.str)]) := by
  unfold gSorted2
  simp only [h, Dz.strsD_map]
  unfold gSorted
  simp only [h, Dz.strsD_map]
def intD : D → Int
  | .int i => i
  | _ => 0
/-- a row of n words -/
theorem words_ok (hp : Pu S p) (h0 : 0 ≤ n) (h9 : n ≤ 9) : Ok (F__law_words [.obj p, .int n] S) fun v S' => ∃ (l : Nat) (ws : List Str), v = .obj l ∧ S.length ≤ l ∧ S'[l]? = some (.lst (ws.map D.str)) ∧ ws.length ≤ 9 ∧ (n ≤ 4 → ws.length ≤ 4) ∧ (∀ z ∈ ws, Wd z) ∧ Go2 p S S' := by
  show Ok (outF (b__law_words [some (.obj p), some (.int n), none, none, none, none, none] S)) _
  unfold b__law_words
  have lp := hp.lt
  have hsz : sizeLine = 16777216 := sizeLine_eq
  rw [ok_x, okx_out, sp_seq]
  try walk_at "dy"
  try rw [if_pos (by omega)]
  refine pick_ix (n := 4) (hp.gr Gr.new) at_new (by omega) (by decide) (Nat.le_of_ble_eq_true rfl) (by decide) fun v hv S2 g2 => ?_
  have G2 : Go2 p S S2 := (Go2.of hp Gr.new).trans g2
  obtain ⟨st, hst, rfl⟩ : ∃ st ∈ stemsW, v = .str st := by
    simp only [List.take, List.mem_cons, List.not_mem_nil, or_false] at hv
    rcases hv with rfl | rfl | rfl | rfl <;> exact ⟨_, by decide, rfl⟩
  try walk_at "dy"
  refine (take_ok G2.pu (by decide) (by decide)).x fun v S3 ⟨z, e, z0, z1, g3⟩ => ?_
  subst e
  have G3 := G2.trans g3
  try walk_at "dy"
  try rw [if_pos (by omega)]
  rw [sp_seq]
  try walk_at "dy"
  have hit : jRng1 (aCons (fVar 1) aNil) [some (.obj p), some (.int n), some (.str st), some (.int z), none, none, none] S3 = .ok (.vals (rngD 0 n.toNat)) S3 := by
    unfold jRng1 aCons aNil fVar
    simp only [Res.bind, List.getElem?_cons_succ, List.getElem?_cons_zero]
    rw [if_pos (by constructor <;> omega)]
  refine (ok_map (S := S3) (xs := rngD 0 n.toNat) (f := fun d => .str (ltr ((z + 3 * intD d).fmod 26).toNat)) (Q := fun v S' => ∃ l, v = .obj l ∧ S'[l]? = some (.lst ((rngD 0 n.toNat).map fun d => .str (ltr ((z + 3 * intD d).fmod 26).toNat))) ∧ Gr [] S3 S') (by rw [rng_len]; omega) hit (fun d S4 hd g4 => ?_) (fun l S4 hl g4 hL => ⟨l, rfl, hL, g4⟩)).x fun v S4 ⟨l, ev, hL, g4⟩ => ?_
  · obtain ⟨i, hi, rfl⟩ : ∃ i : Nat, i < n.toNat ∧ d = .int i := by
      unfold rngD at hd
      obtain ⟨i, hi, rfl⟩ := List.mem_map.mp hd
      exact ⟨i, List.mem_range.mp hi, by simp⟩
    have m0 : 0 ≤ (z + 3 * (i : Int)).fmod 26 := (by rw [Int.fmod_eq_emod_of_nonneg _ (by decide)]; exact Int.emod_nonneg _ (by decide))
    have m1 : (z + 3 * (i : Int)).fmod 26 < 26 := Int.fmod_lt_of_pos _ (by decide)
    rw [ok_x]
    try walk_at "dy"
    have cm : cMul 3 (i : Int) = true := by
      unfold cMul
      simp
    rw [v_mul, if_pos cm, v_addI, v_mod, if_pos (by decide)]
    try walk_at "dy"
    try rw [if_pos (by decide)]
    rw [ix_abc m0 m1, okx_ok]
    exact ⟨rfl, Gr.refl⟩
  · subst ev
    have eL : ((rngD 0 n.toNat).map fun d => D.str (ltr ((z + 3 * intD d).fmod 26).toNat)) = ((rngD 0 n.toNat).map fun d => ltr ((z + 3 * intD d).fmod 26).toNat).map D.str := by rw [List.map_map]; rfl
    rw [eL] at hL
    have wl : ∀ y ∈ ((rngD 0 n.toNat).map fun d => ltr ((z + 3 * intD d).fmod 26).toNat), ∃ j : Nat, j < 26 ∧ y = ltr j := fun y hy => by
      obtain ⟨d, _, rfl⟩ := List.mem_map.mp hy
      have m1 : (z + 3 * intD d).fmod 26 < 26 := Int.fmod_lt_of_pos _ (by decide)
      have m0 : 0 ≤ (z + 3 * intD d).fmod 26 := (by rw [Int.fmod_eq_emod_of_nonneg _ (by decide)]; exact Int.emod_nonneg _ (by decide))
      exact ⟨_, by omega, rfl⟩
    have ll : ((rngD 0 n.toNat).map fun d => ltr ((z + 3 * intD d).fmod 26).toNat).length = n.toNat := by rw [List.length_map, rng_len]
    generalize ((rngD 0 n.toNat).map fun d => ltr ((z + 3 * intD d).fmod 26).toNat) = ls at hL wl ll
    try walk_at "dy"
    rw [gSorted2_strs hL, okx_ok]
    try walk_at "dy"
    have hL5 : (S4 ++ [MO.lst ((sortF ls).map D.str)])[S4.length]? = some (.lst ((sortF ls).map D.str)) := at_new
    have G5 : Go2 p S (S4 ++ [MO.lst ((sortF ls).map D.str)]) := G3.same (g4.trans Gr.new)
    generalize S4 ++ [MO.lst ((sortF ls).map D.str)] = S5 at hL5 G5 ⊢
    have wl5 : ∀ y ∈ sortF ls, ∃ j : Nat, j < 26 ∧ y = ltr j := fun y hy => wl y (sortF_mem.mp hy)
    have ll5 : (sortF ls).length = n.toNat := by rw [sortF_len]; exact ll
    generalize sortF ls = ms at hL5 wl5 ll5
    have hit5 : iSeq (fVar 4) [some (.obj p), some (.int n), some (.str st), some (.int z), some (.obj S4.length), none, none] S5 = .ok (.lst S4.length) S5 := i_obj rfl hL5
    have w5 : ∀ y ∈ ms, Wd (st ++ y) := fun y hy => by
      obtain ⟨j, hj, rfl⟩ := wl5 y hy
      exact wd_of (stem_wd st hst j hj)
    rw [← ok_x]
    refine ok_mapL (f := fun d => .str (st ++ strD d)) (by rw [List.length_map]; omega) hit5 hL5 (fun d S6 hd g6 => ?_) fun l S6 hl6 g6 hL6 => ?_
    · obtain ⟨y, hy, rfl⟩ := List.mem_map.mp hd
      rw [ok_x]
      try walk_at "dy"
      have := (w5 y hy).len
      rw [v_addS, if_pos (by rw [Str.length_append] at this; omega)]
      exact ⟨rfl, Gr.refl⟩
    · refine ⟨l, ms.map fun y => st ++ y, rfl, by have := G5.gr.len; omega, by rw [hL6, List.map_map, List.map_map]; rfl, by rw [List.length_map]; omega, fun h4 => by rw [List.length_map]; omega, fun y hy => ?_, G5.same g6⟩
      obtain ⟨x, hx, rfl⟩ := List.mem_map.mp hy
      exact w5 x hx
end
end Fz
/-! ### law k02: groups drawn -/
namespace Fz
def RowQ (g : D) : Prop := ∃ (n : Str) (zs : List Str), g = .tup [.str n, .tup (zs.map D.str)] ∧ Wd n ∧ zs.length ≤ 4 ∧ ∀ z ∈ zs, Wd z
section
variable {p : Nat} {S S1 : Store} {d : D} {n : Int}
theorem Go2.setM {q k : Nat} {o : MO} (h : Go2 q S S1) (hk : S.length ≤ k) (ne : k ≠ q) : Go2 q S (S1.set k o) := by
  obtain ⟨a, b, e, z⟩ := h.pu
  exact ⟨h.gr.set (.inr hk), ⟨a, b, by rw [List.getElem?_set_ne ne]; exact e, z⟩⟩
theorem tyO_l {l : Nat} {xs : List D} (h : S[l]? = some (.lst xs)) : tyO S "list" (.obj l) = true := by
  show (match S[l]? with | some (.lst _) => ("list" == "list" : Bool) | some (.dict _) => ("list" == "dict" : Bool) | _ => false) = true
  rw [h] <;> rfl
theorem folk_ok (hp : Pu S p) : Ok (F__law_folk [.obj p] S) fun v S' => ∃ gs : List D, v = .tup gs ∧ gs.length ≤ 9 ∧ (∀ g ∈ gs, RowQ g) ∧ Go2 p S S' := by
  show Ok (outF (b__law_folk [some (.obj p), none, none] S)) _
  unfold b__law_folk
  have lp := hp.lt
  have hsz : sizeLine = 16777216 := sizeLine_eq
  rw [ok_x, okx_out, sp_seq]
  try walk_at "dy"
  try rw [if_pos (by omega)]
  rw [sp_seq]
  refine sp_forX ?_
  try walk_at "dy"
  try rw [if_pos (by omega)]
  have hf : (S ++ [MO.lst []])[S.length]? = some (.lst []) := at_new
  have gA : Go2 p S (S ++ [MO.lst []]) := Go2.of hp Gr.new
  have lA : (S ++ [MO.lst []]).length = S.length + 1 := by rw [List.length_append] <;> rfl
  generalize S ++ [MO.lst []] = S1 at hf gA lA ⊢
  refine pick_ix (n := 6) (gA.pu.gr Gr.new) at_new (by omega) (by decide) (Nat.le_of_ble_eq_true rfl) (by decide) fun v hv S2 g2 => ?_
  have G2 : Go2 p S S2 := (gA.same Gr.new).trans g2
  have hf2 : S2[S.length]? = some (.lst []) := g2.at (Gr.new.at0 hf) (by omega)
  obtain ⟨m, hm0, hm9, rfl⟩ : ∃ m : Int, 0 ≤ m ∧ m ≤ 9 ∧ v = .int m := by
    simp only [List.take, List.mem_cons, List.not_mem_nil, or_false] at hv
    rcases hv with rfl | rfl | rfl | rfl | rfl | rfl <;> exact ⟨_, by decide, by decide, rfl⟩
  refine (words_ok G2.pu hm0 hm9).x fun v S3 ⟨l, ws, ev, hl, hL, hw9, _, hww, g3⟩ => ?_
  subst ev
  have G3 := G2.trans g3
  have hf3 : S3[S.length]? = some (.lst []) := g3.at hf2 (by omega)
  have l2 := G2.gr.len
  have lS2 := lt_of hf2
  try walk_at "dy"
  refine sp_forI (W := [p, S.length]) (xs := ws.map D.str) (fun i ρ S1 => ∃ (y2 : Option D) (gs : List D), ρ = [some (.obj p), some (.obj S.length), y2] ∧ S1[S.length]? = some (.lst gs) ∧ gs.length = i ∧ (∀ g ∈ gs, RowQ g) ∧ Gr [p, S.length] S3 S1 ∧ Go2 p S S1) rfl (by unfold itemsD; simp only [hL]) ?_ (fun i ρ S1 ⟨_, _, _, _, _, _, h, _⟩ => h) ⟨_, [], rfl, hf3, rfl, by simp, Gr.refl, G3⟩ ?_ ?_
  · intro i hi
    simp only [List.mem_cons, List.not_mem_nil, or_false] at hi
    rcases hi with rfl | rfl <;> (intro h; injection h with h; omega)
  · rintro i d ρ S4 hd ⟨y2, gs, rfl, hF, hg, hr, g4, G4⟩
    rw [List.getElem?_map, Option.map_eq_some_iff] at hd
    obtain ⟨c, hc, rfl⟩ := hd
    have hcw := hww c (List.mem_of_getElem? hc)
    have hi : i < ws.length := (List.getElem?_eq_some_iff.mp hc).1
    rw [ok_x]
    try walk_at "dy"
    rw [if_pos (tyO_l hF)]
    refine (take_ok G4.pu (by decide) (by decide)).x fun v S5 ⟨z, e, z0, z1, g5⟩ => ?_
    subst e
    try walk_at "dy"
    refine (words_ok g5.pu z0 (by omega)).x fun v S6 ⟨l2, zs, ev, hl2, hL2, _, hz4, hzw, g6⟩ => ?_
    subst ev
    try walk_at "dy"
    rw [v_tupleL hL2]
    try walk_at "dy"
    try rw [if_pos (by omega)]
    have lS := G4.gr.len
    have hF6 : S6[S.length]? = some (.lst gs) := (g5.trans g6).at hF (by omega)
    rw [v_app hF6, if_pos (by omega)]
    refine ⟨_, gs ++ [.tup [.str c, .tup (zs.map D.str)]], rfl, by rw [List.getElem?_set_self (lt_of hF6)], by rw [List.length_append, hg]; rfl, fun g hg' => ?_, (g4.trans ((g5.trans g6).gr.sub (by simp))).set (.inl (by simp)), (G4.trans (g5.trans g6)).setM (Nat.le_refl _) (by omega)⟩
    rcases List.mem_append.mp hg' with q | q
    · exact hr g q
    · rw [List.mem_singleton.mp q]
      exact ⟨c, zs, rfl, hcw, hz4 (by omega), hzw⟩
  · rintro ρ S4 ⟨y2, gs, rfl, hF, hg, hr, g4, G4⟩
    rw [List.length_map] at hg
    try walk_at "dy"
    rw [v_tupleL hF]
    exact ⟨gs, rfl, by omega, hr, G4⟩
end
end Fz
/-! ### law k02: one thing amiss -/
namespace Fz
section
variable {p : Nat} {S S1 : Store} {d x : D} {n : Int} {xs ys : List D} {k : Bool} {l : Nat} {a b : Option Int}
/-- an element of such a thing -/
structure El (p : Nat) (k : Bool) (S : Store) (d : D) : Prop where
  mx : Mx p k 10 11000 S d
  fb : fewB d = true
theorem El.go (h : El p k S d) (g : Gr [p] S S1) : El p k S1 d := ⟨h.mx.go g, h.fb⟩
theorem th_tup (hx : ∀ x ∈ xs, El p k S x) (hn : xs.length ≤ 40) : Th p S (.tup xs) := by
  refine ⟨⟨k, (Mx.tup (h := 10) (w := 11000) (n := 40) (fun x h => (hx x h).mx) hn (by decide)).up (by decide) (by decide)⟩, ?_⟩
  unfold fewsB
  rw [List.all_eq_true]
  exact fun x h => (hx x h).fb
theorem th_lst (hl : S[l]? = some (.lst xs)) (ne : l ≠ p) (hx : ∀ x ∈ xs, El p true S x) (hn : xs.length ≤ 40) : Th p S (.obj l) :=
  ⟨⟨true, (Mx.lst (h := 10) (w := 11000) (n := 40) hl ne (fun x h => (hx x h).mx) hn).up (by decide) (by decide)⟩, rfl⟩
theorem OddQ.el (h : OddQ p S d) : ∃ k, El p k S d := h.mx.elim fun k m => ⟨k, m.up (by decide) (by decide), h.f2⟩
theorem OddQ.th (h : OddQ p S d) : Th p S d := ⟨h.mx.elim fun k m => ⟨k, m.up (by decide) (by decide)⟩, h.f1⟩
theorem el_str {z : Str} (h : z.length ≤ 8) (hc : ∀ c ∈ z.cps.toList, c < 1000) : El p k S (.str z) := ⟨(Pd.str (w := 82) (fun c h' => by have := hc c h'; omega) (by omega) (by decide)).mx.up (by decide) (by decide), rfl⟩
theorem Wd.el {z : Str} (h : Wd z) : El p k S (.str z) := el_str h.len fun c hc => by have := h.low c hc; omega
theorem sl_t : slD (.tup xs) a b S = .ok (.tup (cutL xs a b)) S := rfl
theorem cut_sub (h : x ∈ cutL xs a b) : x ∈ xs := by
  unfold cutL at h
  exact List.mem_of_mem_drop (List.mem_of_mem_take h)
theorem cut_len : (cutL xs a b).length ≤ xs.length := by
  unfold cutL
  rw [List.length_take, List.length_drop]
  omega
theorem add_t (h : xs.length + ys.length ≤ 1000) : gAdd (.tup xs) (.tup ys) S = .ok (.tup (xs ++ ys)) S := by
  unfold gAdd
  simp only
  rw [if_pos (by have : sizeLine = 16777216 := sizeLine_eq; omega)]
end
end Fz
/-! ### law k02: rights amiss -/
namespace Fz
section
variable {p : Nat} {S S1 : Store} {d x : D} {n : Int} {xs ys : List D} {k : Bool} {l : Nat}
/-- a text put otherwise -/
theorem bad_ok {x0 x1 x2 x3 x4 : Option D} {QD : D → Store → Prop} {E : Str → List (Str × D) → Store → Prop} (h0 : x0 = some (.obj p)) (hp : Pu S p) (hQ : ∀ v S', (∃ k, El p k S' v) → Go2 p S S' → QD v S') :
    OkX (fOp gIx (fLst (aCons (fC (.str "wr")) (aCons (fC (.str "rr")) (aCons (fC (.str "R")) (aCons (fC (.str " r")) (aCons (fC (.str "r ")) (aCons (fC (.str "rwx")) (aCons (fC .non) (aCons (fC (.bl true)) (aCons (fC (.int 0)) (aCons (fLst (aCons (fC (.str "r")) aNil)) (aCons (fTup (aCons (fC (.str "r")) aNil)) (aCons (fC (.str "x")) (aCons (fC (.str "w r")) (aCons (fC (.str "-")) aNil))))))))))))))) (fCallN 2 F__law_take (aCons (fVar 0) (aCons (fC (.int 14)) aNil))) [x0, x1, x2, x3, x4] S) QD E := by
  subst h0
  have lp := hp.lt
  have hsz : sizeLine = 16777216 := sizeLine_eq
  try walk_at "dy"
  iterate 3 rw [if_pos (by omega)]
  have g1 : Gr [] S (S ++ [MO.lst [D.str "r"]]) := Gr.new
  have e1 : (S ++ [MO.lst [D.str "r"]])[S.length]? = some (.lst [D.str "r"]) := at_new
  have l1 : (S ++ [MO.lst [D.str "r"]]).length = S.length + 1 := by rw [List.length_append] <;> rfl
  generalize S ++ [MO.lst [D.str "r"]] = S1 at g1 e1 l1 ⊢
  refine pick_ix (n := 14) (hp.gr (g1.trans Gr.new)) at_new (by omega) (by decide) (Nat.le_of_ble_eq_true rfl) (by decide) fun v hv S6 g6 => hQ v S6 ?_ ((Go2.of hp (g1.trans Gr.new)).trans g6)
  have G6 : Gr [p] S1 S6 := Gr.new.trans g6.gr
  suffices h : ∃ k, El p k S1 v from h.elim fun k h => ⟨k, h.go G6⟩
  simp only [List.take, List.mem_cons, List.not_mem_nil, or_false] at hv
  rcases hv with rfl | rfl | rfl | rfl | rfl | rfl | rfl | rfl | rfl | rfl | rfl | rfl | rfl | rfl
  · exact ⟨true, el_str (by decide) (by decide)⟩
  · exact ⟨true, el_str (by decide) (by decide)⟩
  · exact ⟨true, el_str (by decide) (by decide)⟩
  · exact ⟨true, el_str (by decide) (by decide)⟩
  · exact ⟨true, el_str (by decide) (by decide)⟩
  · exact ⟨true, el_str (by decide) (by decide)⟩
  · exact ⟨true, pd_non.mx.up (by decide) (by decide), rfl⟩
  · exact ⟨true, pd_bl.mx.up (by decide) (by decide), rfl⟩
  · exact ⟨true, pd_i0.mx.up (by decide) (by decide), rfl⟩
  · exact ⟨true, (Mx.lst (h := 9) (w := 8000) (n := 1) e1 (by omega) (fun x hx => by rw [List.mem_singleton] at hx; subst hx; exact (Pd.str (w := 82) (by decide) (by decide) (by decide)).mx.up (by decide) (by decide)) (by simp)).up (by decide) (by decide), rfl⟩
  · exact ⟨true, (Mx.tup (h := 9) (w := 8000) (n := 1) (fun x hx => by rw [List.mem_singleton] at hx; subst hx; exact (Pd.str (w := 82) (by decide) (by decide) (by decide)).mx.up (by decide) (by decide)) (by simp) (by decide)).up (by decide) (by decide), rfl⟩
  · exact ⟨true, el_str (by decide) (by decide)⟩
  · exact ⟨true, el_str (by decide) (by decide)⟩
  · exact ⟨true, el_str (by decide) (by decide)⟩
theorem amiss_r (hp : Pu S p) (hx : ∀ x ∈ xs, ∃ z : Str, x = .str z ∧ z.length ≤ 8 ∧ ∀ c ∈ z.cps.toList, c < 1000) (h3 : xs.length ≤ 3) : Ok (F__law_rights_amiss [.obj p, .tup xs] S) fun v S' => Th p S' v ∧ Go2 p S S' := by
  show Ok (outF (b__law_rights_amiss [some (.obj p), some (.tup xs), none, none, none] S)) _
  unfold b__law_rights_amiss
  have lp := hp.lt
  have hsz : sizeLine = 16777216 := sizeLine_eq
  rw [ok_x, okx_out, sp_seq]
  try walk_at "dy"
  refine (take_ok hp (by decide) (by decide)).x fun v S1 ⟨z, e, z0, z1, g1⟩ => ?_
  subst e
  try walk_at "dy"
  refine (take_ok g1.pu (by decide) (by decide)).x fun v S2 ⟨y, e, y0, y1, g2⟩ => ?_
  subst e
  have G2 := g1.trans g2
  try walk_at "dy"
  rw [sp_seq, s_asg_x]
  refine bad_ok rfl G2.pu fun bd S3 ⟨k, hb⟩ g3 => ?_
  have G3 := G2.trans g3
  have ex : ∀ (k : Bool) (S' : Store), ∀ x ∈ xs, El p k S' x := fun k S' x h => by
    obtain ⟨z, rfl, a, b⟩ := hx x h
    exact el_str a b
  have ec : ∀ (k : Bool) (S' : Store) (a b : Option Int), ∀ x ∈ cutL xs a b, El p k S' x := fun k S' a b x h => ex k S' x (cut_sub h)
  have lc : ∀ a b : Option Int, (cutL xs a b).length ≤ 3 := fun a b => Nat.le_trans cut_len h3
  show SP _ _
  rw [sp_seq]
  try walk_at "dy"
  have fin : ∀ ys : List D, (∀ x ∈ ys, El p k S3 x) → ys.length ≤ 40 → Th p S3 (.tup ys) ∧ Go2 p S S3 := fun ys a b => ⟨th_tup a b, G3⟩
  by_cases h0 : z = 0
  · rw [if_pos (decide_eq_true h0), sl_t, okx_ok, sl_t, okx_ok, add_t (by have := lc none (some y); have := lc (some (y + 1)) none; omega), okx_ok]
    refine fin _ (fun x h => ?_) (by rw [List.length_append]; have := lc none (some y); have := lc (some (y + 1)) none; omega)
    rcases List.mem_append.mp h with h | h
    · exact ec k S3 _ _ x h
    · exact ec k S3 _ _ x h
  · rw [if_neg (by simpa using h0), sp_seq]
    try walk_at "dy"
    by_cases h1 : z = 1
    · rw [if_pos (decide_eq_true h1)]
      try rw [sl_t, okx_ok]
      rw [add_t (by have := lc (some y) (some (y + 1)); omega), okx_ok]
      refine fin _ (fun x h => ?_) (by rw [List.length_append]; have := lc (some y) (some (y + 1)); omega)
      rcases List.mem_append.mp h with h | h
      · exact ex k S3 x h
      · exact ec k S3 _ _ x h
    · rw [if_neg (by simpa using h1), sp_seq]
      try walk_at "dy"
      by_cases h2 : z = 2
      · rw [if_pos (decide_eq_true h2), v_listT]
        have ls := G3.gr.len
        exact ⟨th_lst at_new (by omega) (fun x h => ex true _ x h) (by omega), G3.same Gr.new⟩
      · rw [if_neg (by simpa using h2)]
        try walk_at "dy"
        try rw [sl_t, okx_ok]
        try walk_at "dy"
        try rw [if_pos (by omega)]
        rw [add_t (by rw [List.length_singleton]; have := lc none (some y); omega), okx_ok]
        try walk_at "dy"
        try rw [sl_t, okx_ok]
        rw [add_t (by rw [List.length_append, List.length_singleton]; have := lc none (some y); have := lc (some (y + 1)) none; omega), okx_ok]
        refine fin _ (fun x h => ?_) (by rw [List.length_append, List.length_append, List.length_singleton]; have := lc none (some y); have := lc (some (y + 1)) none; omega)
        rcases List.mem_append.mp h with h | h
        · rcases List.mem_append.mp h with h | h
          · exact ec k S3 _ _ x h
          · rw [List.mem_singleton.mp h]
            exact hb
        · exact ec k S3 _ _ x h
end
end Fz
namespace Fz
theorem negPick_rev {α : Type} (xs : List α) : negPick xs none none = xs.reverse := by
  have ea : Builtin.Slice.sliceAdjust none none (-1) (xs.length : Int) = ((xs.length : Int) - 1, -1) := rfl
  have ep : Builtin.Slice.slicePlaces ((xs.length : Int) - 1) (-1) (-1) = xs.length := by
    unfold Builtin.Slice.slicePlaces
    rw [if_neg (by decide)]
    split
    · have : ((xs.length : Int) - 1 - -1 - 1) / (1 : Int) = (xs.length : Int) - 1 := by rw [Int.ediv_one]; omega
      first | omega | (simp; done) | (simp; omega)
    · omega
  unfold negPick
  rw [ea]
  simp only [ep]
  have : ∀ n : Nat, n ≤ xs.length → (List.range n).filterMap (fun m : Nat => xs[(((xs.length : Int) - 1) + (m : Int) * (-1)).toNat]?) = (xs.drop (xs.length - n)).reverse := by
    intro n
    induction n with
    | zero => intro _; simp
    | succ n ih =>
      intro hn
      have hlt : xs.length - (n + 1) < xs.length := by omega
      have e1 : (((xs.length : Int) - 1) + (n : Int) * (-1)).toNat = xs.length - (n + 1) := by omega
      have e2 : xs.length - n = xs.length - (n + 1) + 1 := by omega
      rw [List.range_succ, List.filterMap_append, ih (by omega)]
      have e3 : List.filterMap (fun m : Nat => xs[(((xs.length : Int) - 1) + (m : Int) * (-1)).toNat]?) [n] = [xs[xs.length - (n + 1)]] := by
        rw [List.filterMap_cons, e1, List.getElem?_eq_getElem hlt]
        rfl
      rw [e3, List.drop_eq_getElem_cons hlt, List.reverse_cons, ← e2]
  have h := this xs.length (Nat.le_refl _)
  rw [Nat.sub_self, List.drop_zero] at h
  exact h
end Fz
/-! ### law k02: groups amiss -/
namespace Fz
section
variable {p : Nat} {S S1 : Store} {d x : D} {n : Int} {xs ys : List D} {k : Bool} {l : Nat}
theorem wd_ok {z : Str} (h : Wd z) : PyData.strOk z = true := h.strOk
theorem row_py {g : D} (h : RowQ g) : ∃ (n : Str) (zs : List Str), pyD g = some (.tuple [.str n, .tuple (zs.map PyData.str)]) ∧ PyData.strOk n = true ∧ ∀ z ∈ zs, PyData.strOk z = true := by
  obtain ⟨n, zs, rfl, h1, _, h2⟩ := h
  refine ⟨n, zs, ?_, wd_ok h1, fun z hz => wd_ok (h2 z hz)⟩
  have e := pys_strs zs
  simp [pyD, pysD, e]
theorem rows_py : ∀ {gs : List D}, (∀ g ∈ gs, RowQ g) → ∃ ps : List PyData, pysD gs = some ps ∧ ps.length = gs.length ∧ PyData.canLayAll0 ps = true ∧ PyData.depthAll ps ≤ 2
  | [], _ => ⟨[], rfl, rfl, by simp [PyData.canLayAll0], by simp [PyData.depthAll]⟩
  | g :: r, h => by
    obtain ⟨ps, e1, e2, e3, e4⟩ := rows_py (gs := r) fun y hy => h y (List.mem_cons_of_mem _ hy)
    obtain ⟨n, zs, e5, e6, e7⟩ := row_py (h g (List.mem_cons_self ..))
    have c1 := canLay_strs zs e7
    have d1 : PyData.depthAll (zs.map PyData.str) = 0 := by
      clear e5 e7 c1
      induction zs with
      | nil => simp [PyData.depthAll]
      | cons z r ih => simp [PyData.depthAll, PyData.depth, ih]
    refine ⟨_ :: ps, by rw [pysD, e5, e1] <;> rfl, by rw [List.length_cons, List.length_cons, e2], ?_, ?_⟩
    · simp [PyData.canLayAll0, PyData.canLay0, e6, c1, e3]
    · simp [PyData.depthAll, PyData.depth, d1]
      omega
theorem eq_none (h : ∀ g ∈ xs, RowQ g) (hl : xs.length ≤ 9) : gEq (.tup xs) (.tup []) S = .ok (.bl xs.isEmpty) S := by
  obtain ⟨ps, e1, e2, e3, e4⟩ := rows_py h
  unfold gEq gEqv
  have a1 : sclD (.tup xs) (.tup []) = none := by
    unfold sclD
    simp only [fltD]
  have a2 : pyO S (.tup xs) = some (.tuple ps) := by
    show pyD (.tup xs) = _
    rw [pyD, e1]
    rfl
  have a3 : pyO S (.tup []) = some (.tuple []) := rfl
  simp only [a1, a2, a3]
  have s1 : SeqAt.shaped (.tuple ps) = true := by
    simp [SeqAt.shaped, PyData.canLay0, PyData.depth, e3]
    omega
  have s2 : SeqAt.shaped (.tuple []) = true := by decide +kernel
  rw [if_pos (.inl ⟨s1, s2⟩)]
  cases xs with
  | nil =>
    have : ps = [] := List.eq_nil_of_length_eq_zero e2
    subst this
    rfl
  | cons a r =>
    cases ps with
    | nil => cases e2
    | cons b s => rfl
theorem RowQ.el {g : D} (h : RowQ g) : El p k S g := by
  obtain ⟨n, zs, rfl, h1, h4, h2⟩ := h
  obtain ⟨pd, e⟩ := Pd.tup (h := 1) (w := 82) (xs := zs.map D.str) (n := 4) (fun x hx => by
    obtain ⟨z, hz, rfl⟩ := List.mem_map.mp hx
    exact ⟨_, (h2 z hz).pd⟩) (by rw [List.length_map]; exact h4) (by decide)
  obtain ⟨pd2, e2⟩ := Pd.tup (h := 2) (w := 339) (xs := [.str n, .tup (zs.map D.str)]) (n := 2) (fun x hx => by
    simp only [List.mem_cons, List.not_mem_nil, or_false] at hx
    rcases hx with rfl | rfl
    · exact ⟨_, h1.pd.up (by decide) (by decide)⟩
    · exact ⟨_, e⟩) (Nat.le_refl _) (by decide)
  exact ⟨e2.mx.up (by decide) (by decide), decide_eq_true (by rw [List.length_map]; omega)⟩
/-- a row of a name and what may stand for its users -/
theorem el_row {n : D} {y : D} (hn : Mx p k 8 800 S n) (hy : Mx p k 8 5100 S y) (hf : ∀ ws, y = .tup ws → ws.length ≤ 63) : El p k S (.tup [n, y]) := by
  refine ⟨(Mx.tup (h := 8) (w := 5100) (n := 2) (fun x hx => ?_) (by simp) (by decide)).up (by decide) (by decide), ?_⟩
  · simp only [List.mem_cons, List.not_mem_nil, or_false] at hx
    rcases hx with rfl | rfl
    · exact hn.up (by decide) (by decide)
    · exact hy
  · cases y with
    | tup ws => exact decide_eq_true (hf ws rfl)
    | _ => rfl
/-- groups in a list, a thing of any kind, one more that is none -/
theorem amiss_four {o : D} {S0 : Store} (G : Go2 p S0 S) (hx : ∀ g ∈ xs, RowQ g) (h9 : xs.length ≤ 9) (ho : OddQ p S o) : OkX (gList [D.tup xs] S) (fun d S1 =>
        if 1 ≤ sizeLine then
          OkX (gAdd (D.tup xs) (D.tup [o]) S1)
            (fun d_1 S1 =>
              if 1 ≤ sizeLine then
                if 2 ≤ sizeLine then
                  if 1 ≤ sizeLine then
                    OkX (gAdd (D.tup xs) (D.tup [D.tup [D.str "zz", D.obj (List.length S1)]]) (S1 ++ [MO.lst [D.str "a"]]))
                      (fun d_2 S1 =>
                        if 4 ≤ sizeLine then
                          OkX (F__law_take [D.obj p, D.int 4] (S1 ++ [MO.lst [d, o, d_1, d_2]]))
                            (fun e S2 =>
                              OkX (gIx (D.obj (List.length S1)) e S2) (fun v S' => Th p S' v ∧ Go2 p S0 S') fun c fs S => False)
                            fun c fs S => False
                        else False)
                      fun c fs S => False
                  else False
                else False
              else False)
            fun c fs S => False
        else False)
      fun c fs S => False := by
  have hsz : sizeLine = 16777216 := sizeLine_eq
  have lp := G.pu.lt
  obtain ⟨ko, eo⟩ := ho.el
  have ex : ∀ (k : Bool) (S' : Store), ∀ x ∈ xs, El p k S' x := fun k S' x h => (hx x h).el
  rw [v_listT, if_pos (by omega), add_t (by rw [List.length_singleton]; omega), okx_ok, if_pos (by omega), if_pos (by omega), if_pos (by omega), add_t (by rw [List.length_singleton]; omega), okx_ok, if_pos (by omega)]
  have g1 : Gr [] S (S ++ [MO.lst xs]) := Gr.new
  have e1 : (S ++ [MO.lst xs])[S.length]? = some (.lst xs) := at_new
  have l1 : (S ++ [MO.lst xs]).length = S.length + 1 := by rw [List.length_append] <;> rfl
  generalize S ++ [MO.lst xs] = S1 at g1 e1 l1 ⊢
  have g2 : Gr [] S1 (S1 ++ [MO.lst [D.str "a"]]) := Gr.new
  have e2 : (S1 ++ [MO.lst [D.str "a"]])[S1.length]? = some (.lst [D.str "a"]) := at_new
  have l2 : (S1 ++ [MO.lst [D.str "a"]]).length = S1.length + 1 := by rw [List.length_append] <;> rfl
  generalize S1 ++ [MO.lst [D.str "a"]] = S2 at g2 e2 l2 ⊢
  have G2 := G.same (g1.trans g2)
  refine pick_ix (n := 4) (G2.pu.gr Gr.new) at_new (by omega) (by decide) (Nat.le_of_ble_eq_true rfl) (by decide) fun v hv S6 g6 => ⟨?_, (G2.same Gr.new).trans g6⟩
  have G6 : Gr [p] S2 S6 := Gr.new.trans g6.gr
  suffices h : Th p S2 v from h.go G6
  simp only [List.take, List.mem_cons, List.not_mem_nil, or_false] at hv
  rcases hv with rfl | rfl | rfl | rfl
  · exact th_lst (g2.at0 e1) (by omega) (ex true S2) (by omega)
  · exact (ho.go (g1.trans g2).w).th
  · refine th_tup (k := ko) (fun x h => ?_) (by rw [List.length_append, List.length_singleton]; omega)
    rcases List.mem_append.mp h with h | h
    · exact ex ko S2 x h
    · rw [List.mem_singleton.mp h]
      exact eo.go (g1.trans g2).w
  · refine th_tup (k := true) (fun x h => ?_) (by rw [List.length_append, List.length_singleton]; omega)
    rcases List.mem_append.mp h with h | h
    · exact ex true S2 x h
    · rw [List.mem_singleton.mp h]
      have wz : Wd "zz" := wd_of (by decide +kernel)
      have wa : Wd "a" := wd_of (by decide +kernel)
      refine el_row (wz.pd.mx.up (by decide) (by decide)) ((Mx.lst (h := 1) (w := 82) (n := 1) e2 (by omega) (fun x hx => ?_) (by simp)).up (by decide) (by decide)) fun ws e => nomatch e
      rw [List.mem_singleton.mp hx]
      exact wa.pd.mx
theorem amiss_g (hp : Pu S p) (hx : ∀ g ∈ xs, RowQ g) (h9 : xs.length ≤ 9) : Ok (F__law_groups_amiss [.obj p, .tup xs] S) fun v S' => Th p S' v ∧ Go2 p S S' := by
  show Ok (outF (b__law_groups_amiss [some (.obj p), some (.tup xs), none, none, none, none, none, none, none, none] S)) _
  unfold b__law_groups_amiss
  have lp := hp.lt
  have hsz : sizeLine = 16777216 := sizeLine_eq
  rw [ok_x, okx_out, sp_seq]
  try walk_at "dy"
  refine (take_ok hp (by decide) (by decide)).x fun v S1 ⟨z, e, z0, z1, g1⟩ => ?_
  subst e
  try walk_at "dy"
  refine (odd_ok g1.pu).x fun o S2 ⟨ho, g2⟩ => ?_
  have G2 := g1.trans g2
  try walk_at "dy"
  rw [sp_seq]
  try walk_at "dy"
  have hm : ∀ m : Int, m = (if (xs.length : Int) > 1 then (xs.length : Int) else 1) → 0 < m ∧ m ≤ 9 ∧ (xs ≠ [] → m ≤ xs.length) := fun m e => by
    subst e
    have : xs ≠ [] → 1 ≤ xs.length := fun h => List.length_pos_iff.mpr h
    split
    · exact ⟨by omega, by omega, fun _ => by omega⟩
    · exact ⟨by omega, by omega, fun h => by have := this h; omega⟩
  have hm := hm _ rfl
  generalize (if (xs.length : Int) > 1 then (xs.length : Int) else 1) = m at hm ⊢
  obtain ⟨m0, m9, mx⟩ := hm
  refine (take_ok G2.pu m0 (by omega)).x fun v S3 ⟨a, e, a0, a1, g3⟩ => ?_
  subst e
  refine (take_ok g3.pu m0 (by omega)).x fun v S4 ⟨t, e, t0, t1, g4⟩ => ?_
  subst e
  have G4 := G2.trans (g3.trans g4)
  have ho4 := ho.go (g3.trans g4).gr
  obtain ⟨ko, eo⟩ := ho4.el
  have lS := G4.gr.len
  clear g1 g2 g3 g4 G2 ho
  have ex : ∀ (k : Bool) (S' : Store), ∀ x ∈ xs, El p k S' x := fun k S' x h => (hx x h).el
  have ec : ∀ (k : Bool) (S' : Store) (a b : Option Int), ∀ x ∈ cutL xs a b, El p k S' x := fun k S' a b x h => ex k S' x (cut_sub h)
  have lc : ∀ a b : Option Int, (cutL xs a b).length ≤ 9 := fun a b => Nat.le_trans cut_len h9
  rw [sp_seq]
  try walk_at "dy"
  have four := amiss_four G4 hx h9 ho4
  by_cases hz : z = 0
  · rw [if_pos (decide_eq_true hz)]
    exact four
  rw [if_neg (by simpa using hz), if_pos (by omega), eq_none hx h9, okx_ok]
  have tb : ∀ (b : Bool) (S' : Store), truth (.bl b) S' = some b := fun _ _ => rfl
  simp only [tb]
  cases he : xs.isEmpty with
  | true =>
    rw [if_pos rfl]
    exact four
  | false =>
    rw [if_neg (by decide)]
    have hne : xs ≠ [] := fun h => by rw [h] at he; cases he
    have hml := mx hne
    clear four
    obtain ⟨g, hgm, hg⟩ := atI_nat (xs := xs) a0 (by omega)
    obtain ⟨n, zs, rfl, wn, l4, wzs⟩ := hx g hgm
    rw [sp_seq, s_asgT_x]
    try walk_at "dy"
    rw [hg]
    simp only
    rw [tg_tup, if_pos (by rfl)]
    try walk_at "dy"
    rw [sp_seq, s_asg_x]
    have ezs : ∀ (k : Bool) (S' : Store), ∀ x ∈ zs.map D.str, Mx p k 1 82 S' x := fun k S' x h => by
      obtain ⟨z, hz, rfl⟩ := List.mem_map.mp h
      exact (wzs z hz).pd.mx
    have lz : (zs.map D.str).length ≤ 4 := by rw [List.length_map]; exact l4
    generalize zs.map D.str = ws at ezs lz hg hgm
    try walk_at "dy"
    have er : ∀ (us : List D) (ρ : Dz.Env) (j : Nat) (S' : Store), ρ[j]? = some (some (.tup us)) → us.length ≤ 1000 → fRev (fVar j) ρ S' = .ok (.tup us.reverse) S' := fun us ρ j S' e hl => by
      unfold fRev fVar
      rw [e]
      simp only [Res.bind, negPick_rev]
      rw [if_pos (by rw [List.length_reverse]; omega)]
    rw [er ws _ 7 _ rfl (by omega), okx_ok, sl_t, okx_ok]
    have lc1 : (cutL ws none (some 1)).length ≤ 4 := Nat.le_trans cut_len lz
    rw [add_t (by omega), okx_ok, v_listT, if_pos (by omega), add_t (by rw [List.length_singleton]; omega), okx_ok, if_pos (by omega), add_t (by rw [List.length_singleton]; omega), okx_ok, if_pos (by omega)]
    have g1 : Gr [] S4 (S4 ++ [MO.lst ws]) := Gr.new
    have e1 : (S4 ++ [MO.lst ws])[S4.length]? = some (.lst ws) := at_new
    have l1 : (S4 ++ [MO.lst ws]).length = S4.length + 1 := by rw [List.length_append] <;> rfl
    generalize S4 ++ [MO.lst ws] = S5 at g1 e1 l1 ⊢
    have hB : (S5 ++ [MO.lst [D.tup ws.reverse, .tup (ws ++ cutL ws none (some 1)), .obj S4.length, .tup (ws ++ [D.str "A"]), .tup (ws ++ [o]), .non]])[S5.length]? = some (.lst [D.tup ws.reverse, .tup (ws ++ cutL ws none (some 1)), .obj S4.length, .tup (ws ++ [D.str "A"]), .tup (ws ++ [o]), .non]) := at_new
    have g2 : Gr [] S5 (S5 ++ [MO.lst [D.tup ws.reverse, .tup (ws ++ cutL ws none (some 1)), .obj S4.length, .tup (ws ++ [D.str "A"]), .tup (ws ++ [o]), .non]]) := Gr.new
    have lo : ∀ (k : Bool) (S' : Store), Mx p k 4 500 S' o → ∀ x ∈ ws ++ [o], Mx p k 4 500 S' x := fun k S' h x hx => by
      rcases List.mem_append.mp hx with h' | h'
      · exact (ezs k S' x h').up (by decide) (by decide)
      · rw [List.mem_singleton.mp h']; exact h
    have hbs : ∀ y ∈ [D.tup ws.reverse, .tup (ws ++ cutL ws none (some 1)), .obj S4.length, .tup (ws ++ [D.str "A"]), .tup (ws ++ [o]), .non], (∃ k, Mx p k 8 5100 S5 y) ∧ ∀ us, y = .tup us → us.length ≤ 63 := fun y hy => by
      simp only [List.mem_cons, List.not_mem_nil, or_false] at hy
      rcases hy with rfl | rfl | rfl | rfl | rfl | rfl
      · exact ⟨⟨true, (Mx.tup (h := 1) (w := 82) (n := 10) (fun x hx => ezs true S5 x (List.mem_reverse.mp hx)) (by rw [List.length_reverse]; omega) (by decide)).up (by decide) (by decide)⟩, fun us e => by injection e with e; rw [← e, List.length_reverse]; omega⟩
      · refine ⟨⟨true, (Mx.tup (h := 1) (w := 82) (n := 10) (fun x hx => ?_) (by rw [List.length_append]; omega) (by decide)).up (by decide) (by decide)⟩, fun us e => by injection e with e; rw [← e, List.length_append]; omega⟩
        rcases List.mem_append.mp hx with h' | h'
        · exact ezs true S5 x h'
        · exact ezs true S5 x (cut_sub h')
      · exact ⟨⟨true, (Mx.lst (h := 1) (w := 82) (n := 10) e1 (by omega) (ezs true S5) (by omega)).up (by decide) (by decide)⟩, fun us e => nomatch e⟩
      · refine ⟨⟨true, (Mx.tup (h := 1) (w := 82) (n := 10) (fun x hx => ?_) (by rw [List.length_append, List.length_singleton]; omega) (by decide)).up (by decide) (by decide)⟩, fun us e => by injection e with e; rw [← e, List.length_append, List.length_singleton]; omega⟩
        rcases List.mem_append.mp hx with h' | h'
        · exact ezs true S5 x h'
        · rw [List.mem_singleton.mp h']
          exact (Pd.str (w := 82) (by decide) (by decide) (by decide)).mx
      · obtain ⟨k, mo⟩ := (ho4.go g1.w).mx
        exact ⟨⟨k, (Mx.tup (h := 4) (w := 500) (n := 10) (lo k S5 mo) (by rw [List.length_append, List.length_singleton]; omega) (by decide)).up (by decide) (by decide)⟩, fun us e => by injection e with e; rw [← e, List.length_append, List.length_singleton]; omega⟩
      · exact ⟨⟨true, pd_non.mx.up (by decide) (by decide)⟩, fun us e => nomatch e⟩
    have lbs : [D.tup ws.reverse, .tup (ws ++ cutL ws none (some 1)), .obj S4.length, .tup (ws ++ [D.str "A"]), .tup (ws ++ [o]), .non].length = 6 := rfl
    generalize [D.tup ws.reverse, D.tup (ws ++ cutL ws none (some 1)), D.obj S4.length, D.tup (ws ++ [D.str "A"]), D.tup (ws ++ [o]), D.non] = bs at hB hbs g2 lbs ⊢
    have hlb : p < S5.length := by omega
    generalize S5.length = lb at hB hlb ⊢
    have hbs6 : ∀ y ∈ bs, (∃ k, Mx p k 8 5100 (S5 ++ [MO.lst bs]) y) ∧ ∀ us, y = .tup us → us.length ≤ 63 := fun y hy => ⟨(hbs y hy).1.elim fun k m => ⟨k, m.go g2.w⟩, (hbs y hy).2⟩
    have G6 : Go2 p S (S5 ++ [MO.lst bs]) := G4.same (g1.trans g2)
    have ho6 := ho4.go (g1.trans g2).w
    generalize S5 ++ [MO.lst bs] = S6 at hB hbs6 G6 ho6 ⊢
    clear g1 g2 hbs e1 l1
    have fin : ∀ (k : Bool) (ys : List D), (∀ x ∈ ys, El p k S6 x) → ys.length ≤ 40 → Th p S6 (.tup ys) ∧ Go2 p S S6 := fun k ys a b => ⟨th_tup a b, G6⟩
    -- one put between two cuts
    have mid : ∀ (k : Bool) (S' : Store) (c1 c2 c3 c4 : Option Int) (y : D), El p k S' y → Th p S' (.tup (cutL xs c1 c2 ++ [y] ++ cutL xs c3 c4)) := fun k S' c1 c2 c3 c4 y hy => th_tup (k := k) (fun x h => by
      rcases List.mem_append.mp h with h | h
      · rcases List.mem_append.mp h with h | h
        · exact ec k S' _ _ x h
        · rw [List.mem_singleton.mp h]
          exact hy
      · exact ec k S' _ _ x h) (by rw [List.length_append, List.length_append, List.length_singleton]; have := lc c1 c2; have := lc c3 c4; omega)
    have addm : ∀ (S' : Store) (c1 c2 c3 c4 : Option Int) (y : D), gAdd (.tup (cutL xs c1 c2)) (.tup [y]) S' = .ok (.tup (cutL xs c1 c2 ++ [y])) S' ∧ gAdd (.tup (cutL xs c1 c2 ++ [y])) (.tup (cutL xs c3 c4)) S' = .ok (.tup (cutL xs c1 c2 ++ [y] ++ cutL xs c3 c4)) S' := fun S' c1 c2 c3 c4 y => ⟨add_t (by rw [List.length_singleton]; have := lc c1 c2; omega), add_t (by rw [List.length_append, List.length_singleton]; have := lc c1 c2; have := lc c3 c4; omega)⟩
    have add3 : ∀ (S' : Store) (c1 c2 c3 c4 c5 c6 : Option Int), gAdd (.tup (cutL xs c1 c2)) (.tup (cutL xs c3 c4)) S' = .ok (.tup (cutL xs c1 c2 ++ cutL xs c3 c4)) S' ∧ gAdd (.tup (cutL xs c1 c2 ++ cutL xs c3 c4)) (.tup (cutL xs c5 c6)) S' = .ok (.tup (cutL xs c1 c2 ++ cutL xs c3 c4 ++ cutL xs c5 c6)) S' := fun S' c1 c2 c3 c4 c5 c6 => ⟨add_t (by have := lc c1 c2; have := lc c3 c4; omega), add_t (by rw [List.length_append]; have := lc c1 c2; have := lc c3 c4; have := lc c5 c6; omega)⟩
    have th3 : ∀ (c1 c2 c3 c4 c5 c6 : Option Int), Th p S6 (.tup (cutL xs c1 c2 ++ cutL xs c3 c4 ++ cutL xs c5 c6)) ∧ Go2 p S S6 := fun c1 c2 c3 c4 c5 c6 => fin true _ (fun x h => by
      rcases List.mem_append.mp h with h | h
      · rcases List.mem_append.mp h with h | h
        · exact ec true S6 _ _ x h
        · exact ec true S6 _ _ x h
      · exact ec true S6 _ _ x h) (by rw [List.length_append, List.length_append]; have := lc c1 c2; have := lc c3 c4; have := lc c5 c6; omega)
    show SP _ _
    rw [sp_seq]
    try walk_at "dy"
    by_cases h1 : z = 1
    · rw [if_pos (decide_eq_true h1), sl_t, okx_ok, sl_t, okx_ok, (add3 _ _ _ _ _ none none).1, okx_ok, sl_t, okx_ok, (add3 _ _ _ _ _ _ _).2, okx_ok]
      exact th3 _ _ _ _ _ _
    rw [if_neg (by simpa using h1), sp_seq]
    try walk_at "dy"
    by_cases h2 : z = 2
    · rw [if_pos (decide_eq_true h2), sl_t, okx_ok, sl_t, okx_ok, (add3 _ _ _ _ _ none none).1, okx_ok, sl_t, okx_ok, (add3 _ _ _ _ _ _ _).2, okx_ok]
      exact th3 _ _ _ _ _ _
    rw [if_neg (by simpa using h2), sp_seq]
    try walk_at "dy"
    by_cases h3 : z = 3
    · rw [if_pos (decide_eq_true h3), er xs _ 1 _ rfl (by omega), okx_ok]
      exact fin true _ (fun x h => ex true S6 x (List.mem_reverse.mp h)) (by rw [List.length_reverse]; omega)
    rw [if_neg (by simpa using h3), sp_seq]
    try walk_at "dy"
    by_cases h4 : z = 4
    · rw [if_pos (decide_eq_true h4)]
      rw [sp_seq, s_asg_x]
      try walk_at "dy"
      have lp6 := G6.pu.lt
      iterate 5 rw [if_pos (by omega)]
      try rw [if_pos (by omega)]
      have g1 : Gr [] S6 (S6 ++ [MO.lst [D.str n, .tup ws]]) := Gr.new
      have e1 : (S6 ++ [MO.lst [D.str n, .tup ws]])[S6.length]? = some (.lst [D.str n, .tup ws]) := at_new
      have l1 : (S6 ++ [MO.lst [D.str n, .tup ws]]).length = S6.length + 1 := by rw [List.length_append] <;> rfl
      generalize S6 ++ [MO.lst [D.str n, .tup ws]] = S7 at g1 e1 l1 ⊢
      have G7 := G6.same g1
      refine pick_ix (n := 4) (G7.pu.gr Gr.new) at_new (by omega) (by decide) (Nat.le_of_ble_eq_true rfl) (by decide) fun v hv S8 g8 => ?_
      have G8 : Go2 p S S8 := (G7.same Gr.new).trans g8
      have gg : Gr [p] S7 S8 := Gr.new.trans g8.gr
      have mn : ∀ S', Mx p true 1 82 S' (.str n) := fun S' => wn.pd.mx
      have mw : ∀ S', Mx p true 2 339 S' (.tup ws) := fun S' => Mx.tup (h := 1) (w := 82) (n := 4) (ezs true S') lz (by decide)
      have hv' : El p true S7 v := by
        simp only [List.take, List.mem_cons, List.not_mem_nil, or_false] at hv
        rcases hv with rfl | rfl | rfl | rfl
        · exact ⟨(Mx.tup (h := 1) (w := 82) (n := 1) (fun x hx => by rw [List.mem_singleton.mp hx]; exact mn _) (by simp) (by decide)).up (by decide) (by decide), rfl⟩
        · refine ⟨(Mx.tup (h := 2) (w := 339) (n := 3) (fun x hx => ?_) (by simp) (by decide)).up (by decide) (by decide), rfl⟩
          simp only [List.mem_cons, List.not_mem_nil, or_false] at hx
          rcases hx with rfl | rfl | rfl
          · exact (mn _).up (by decide) (by decide)
          · exact mw _
          · exact (Mx.tup (h := 1) (w := 82) (n := 0) (by simp) (by simp) (by decide)).up (by decide) (by decide)
        · refine ⟨(Mx.lst (h := 2) (w := 339) (n := 2) e1 (by omega) (fun x hx => ?_) (by simp)).up (by decide) (by decide), rfl⟩
          simp only [List.mem_cons, List.not_mem_nil, or_false] at hx
          rcases hx with rfl | rfl
          · exact (mn _).up (by decide) (by decide)
          · exact mw _
        · exact ⟨(mn _).up (by decide) (by decide), rfl⟩
      have hv8 := hv'.go gg
      rw [sl_t, okx_ok]
      try rw [if_pos (by omega)]
      rw [(addm _ _ _ none none _).1, okx_ok, sl_t, okx_ok, (addm _ _ _ _ _ _).2, okx_ok]
      exact ⟨mid true S8 _ _ _ _ v hv8, G8⟩
    rw [if_neg (by simpa using h4), sp_seq]
    try walk_at "dy"
    by_cases h5 : z = 5
    · rw [if_pos (decide_eq_true h5)]
      obtain ⟨k6, m6⟩ := ho6.mx
      rw [sl_t, okx_ok, if_pos (by omega), if_pos (by omega), (addm _ _ _ none none _).1, okx_ok, sl_t, okx_ok, (addm _ _ _ _ _ _).2, okx_ok]
      exact ⟨mid k6 S6 _ _ _ _ _ (el_row (m6.up (by decide) (by decide)) ((Mx.tup (h := 1) (w := 82) (n := 4) (ezs k6 S6) lz (by decide)).up (by decide) (by decide)) fun us e => by injection e with e; rw [← e]; omega), G6⟩
    rw [if_neg (by simpa using h5), sp_seq]
    try walk_at "dy"
    by_cases h6 : z = 6
    · rw [if_pos (decide_eq_true h6)]
      have hn8 := wn.len
      rw [sl_t, okx_ok, v_addS, if_pos (by have : (("Z" : Str)).length = 1 := rfl; omega), if_pos (by omega), if_pos (by omega), (addm _ _ _ none none _).1, okx_ok, sl_t, okx_ok, (addm _ _ _ _ _ _).2, okx_ok]
      refine ⟨mid true S6 _ _ _ _ _ (el_row ((Pd.str (w := 800) (fun c hc => ?_) ?_ (by decide)).mx.up (by decide) (by decide)) ((Mx.tup (h := 1) (w := 82) (n := 4) (ezs true S6) lz (by decide)).up (by decide) (by decide)) fun us e => by injection e with e; rw [← e]; omega), G6⟩
      · have : (n ++ ("Z" : Str)).cps.toList = n.cps.toList ++ ("Z" : Str).cps.toList := Array.toList_append
        rw [this] at hc
        rcases List.mem_append.mp hc with h | h
        · have := wn.low c h; omega
        · have : ∀ c ∈ ("Z" : Str).cps.toList, c < 1000 := by decide
          have := this c h; omega
      · have : (n ++ ("Z" : Str)).length = n.length + 1 := by rw [Str.length_append]; rfl
        omega
    rw [if_neg (by simpa using h6)]
    try walk_at "dy"
    rw [sl_t, okx_ok]
    have lb6 := lt_of hB
    have nbp : lb ≠ p := by omega
    refine pick_ix (n := 6) G6.pu hB nbp (by decide) (by rw [lbs]; decide) (by decide) fun v hv S7 g7 => ?_
    have G7 := G6.trans g7
    obtain ⟨⟨k7, m7⟩, hu⟩ := hbs6 v (List.mem_of_mem_take hv)
    rw [if_pos (by omega), if_pos (by omega), (addm _ _ _ none none _).1, okx_ok, sl_t, okx_ok, (addm _ _ _ _ _ _).2, okx_ok]
    exact ⟨mid k7 S7 _ _ _ _ _ (el_row (wn.pd.mx.up (by decide) (by decide)) (m7.go g7.gr) hu), G7⟩
end
end Fz
/-! ### law k02 -/
namespace Fz
section
variable {p : Nat} {S S1 : Store} {d x : D} {n : Int} {xs ys : List D} {k : Bool} {l : Nat}
theorem abcdef_get : ∀ k : Nat, k < 6 → ("abcdef" : Str).cps.toList[k]? = some (97 + k) := by decide
theorem abcde_get : ∀ k : Nat, k < 5 → ("abcde" : Str).cps.toList[k]? = some (97 + k) := by decide
theorem ix_abcdef {i : Int} (h0 : 0 ≤ i) (h1 : i < 6) : gIx (.str "abcdef") (.int i) S = .ok (.str (ltr i.toNat)) S := by
  have e : gIx (.str "abcdef") (.int i) S = ixD (.str "abcdef") (.int i) S := rfl
  rw [e]
  unfold ixD
  simp only
  rw [if_pos (by decide)]
  have e2 : atI ("abcdef" : Str).cps.toList i = some (97 + i.toNat) := by
    unfold atI ixN
    have hl : ("abcdef" : Str).cps.toList.length = 6 := by decide
    rw [hl, if_pos h0, if_pos (by omega)]
    exact abcdef_get _ (by omega)
  rw [e2]
  rfl
theorem ix_abcde {i : Int} (h0 : 0 ≤ i) (h1 : i < 5) : gIx (.str "abcde") (.int i) S = .ok (.str (ltr i.toNat)) S := by
  have e : gIx (.str "abcde") (.int i) S = ixD (.str "abcde") (.int i) S := rfl
  rw [e]
  unfold ixD
  simp only
  rw [if_pos (by decide)]
  have e2 : atI ("abcde" : Str).cps.toList i = some (97 + i.toNat) := by
    unfold atI ixN
    have hl : ("abcde" : Str).cps.toList.length = 5 := by decide
    rw [hl, if_pos h0, if_pos (by omega)]
    exact abcde_get _ (by omega)
  rw [e2]
  rfl
theorem crowd_wd : ∀ i : Nat, i < 6 → ∀ j : Nat, j < 5 → wordD (.str (ltr i ++ ltr j)) = true := by decide +kernel
theorem neg_sub {lo hi : Option Int} (h : x ∈ negPick xs lo hi) : x ∈ xs := by
  unfold negPick at h
  obtain ⟨m, _, e⟩ := List.mem_filterMap.mp h
  exact List.mem_of_getElem? e
/-- all of a row are told right -/
theorem all_told {x0 x1 x3 x4 x5 x6 x7 x8 : Option D} {q : Nat} (hq : S[q]? = some (.lst xs)) (hl : xs.length ≤ 20) (hx : ∀ x ∈ xs, Th p S x) (fa : Fe) (hfa : fa [x0, x1, some (.obj p), x3, x4, x5, x6, x7, x8] S = .ok (.obj q) S) :
    Ok (fLc (iSeq fa) (tgName 7) ttYes (fCallN 1 F__law_told (aCons (fVar 7) aNil)) [7] [x0, x1, some (.obj p), x3, x4, x5, x6, x7, x8] S) fun v S' => ∃ l, v = .obj l ∧ S'[l]? = some (.lst (xs.map fun _ => .bl true)) ∧ Gr [] S S' := by
  have hit : iSeq fa [x0, x1, some (.obj p), x3, x4, x5, x6, x7, x8] S = .ok (.lst q) S := by
    unfold iSeq
    rw [hfa]
    simp only [Res.bind, hq]
  refine ok_mapL (f := fun _ => .bl true) (by omega) hit hq (fun d S1 hd g => ?_) fun l S1 hl g hL => ⟨l, rfl, hL, g⟩
  rw [ok_x]
  try walk_at "dy"
  have k := told_ok ((hx d hd).go g.w)
  generalize F__law_told [d] S1 = r at k ⊢
  exact k.x fun v S2 h => h
/-- what is told of a thing, as one equation's use -/
theorem told_x {QD : D → Store → Prop} {E : Str → List (Str × D) → Store → Prop} (h : Th p S d) (k : ∀ S', Gr [] S S' → QD (.bl true) S') : OkX (F__law_told [d] S) QD E := (told_ok h).x fun v S' ⟨e, g⟩ => e ▸ k S' g
theorem lc_x {fa : Fe} {tg : Ft} {tt : Dz.Env → Store → Res Bool} {fe : Fe} {js : List Nat} {ρ : Dz.Env} {v : D} (h : fa ρ S = .ok v S1) : fLc (iSeq fa) tg tt fe js ρ S = fLc (iSeq (fC v)) tg tt fe js ρ S1 := by
  have e : iSeq fa ρ S = iSeq (fC v) ρ S1 := by
    unfold iSeq fC
    rw [h] <;> rfl
  unfold fLc
  rw [e]
theorem all_told_t {xs : List D} : (xs.map fun _ => true).all id = true := by
  rw [List.all_eq_true]
  intro b hb
  obtain ⟨_, _, rfl⟩ := List.mem_map.mp hb
  rfl
/-- texts of rights drawn -/
theorem grants_in {x0 x1 x3 x4 x5 x6 x7 x8 : Option D} (hp : Pu S p) :
    Ok (fLc (jRng1 (aCons (fC (.int 3)) aNil)) (tgName 4) ttYes (fOp gIx (fLst (aCons (fC (.str "")) (aCons (fC (.str "r")) (aCons (fC (.str "w")) (aCons (fC (.str "rw")) aNil))))) (fCallN 2 F__law_take (aCons (fVar 2) (aCons (fC (.int 4)) aNil)))) [4] [x0, x1, some (.obj p), x3, x4, x5, x6, x7, x8] S) fun v S' => ∃ l ys, v = .obj l ∧ S'[l]? = some (.lst ys) ∧ ys.length = 3 ∧ (∀ y ∈ ys, ∃ z : Str, y = .str z ∧ z.length ≤ 8 ∧ ∀ c ∈ z.cps.toList, c < 1000) ∧ Go2 p S S' := by
  refine ok_lcP (T := fun _ _ y => ∃ z : Str, y = .str z ∧ z.length ≤ 8 ∧ ∀ c ∈ z.cps.toList, c < 1000) (xs := rngD 0 3) hp (by simp [rngD]) rfl (fun i d S1 hd g => ?_) (fun l ys S1 hl hlen hT g hL => ⟨l, ys, rfl, hL, hlen, fun y hy => ?_, g⟩)
  · rw [ok_x]
    try walk_at "dy"
    rw [if_pos (by have : sizeLine = 16777216 := sizeLine_eq; omega)]
    have := g.pu.lt
    refine pick_ix (n := 4) (g.pu.gr Gr.new) at_new (by omega) (by decide) (Nat.le_of_ble_eq_true rfl) (by decide) fun v hv S2 g2 => ⟨?_, (Go2.of g.pu Gr.new).trans g2⟩
    simp only [List.take, List.mem_cons, List.not_mem_nil, or_false] at hv
    rcases hv with rfl | rfl | rfl | rfl <;> exact ⟨_, rfl, by decide, by decide⟩
  · obtain ⟨i, hi, e⟩ := List.mem_iff_getElem.mp hy
    have h3 : i < (rngD 0 3).length := by rw [← hlen]; exact hi
    exact hT i _ y (List.getElem?_eq_getElem h3) (by rw [← e]; exact List.getElem?_eq_getElem hi)
end
theorem law_true (ns : List Int) (hn : ns.length ≤ 63) : ∃ S', F_law [.flst (ns.map D.int)] [] = .ok (.bl true) S' := by
  suffices h : Ok (F_law [.flst (ns.map D.int)] []) (fun r _ => r = .bl true) by
    obtain ⟨a, S', e, h1⟩ := h.get
    exact ⟨S', by rw [e, h1]⟩
  show Ok (outF (b_law [some (.flst (ns.map D.int)), none, none, none, none, none, none, none, none] [])) _
  unfold b_law
  have hsz : sizeLine = 16777216 := sizeLine_eq
  rw [ok_x, okx_out, sp_seq]
  try walk_at "dy"
  rw [List.length_map]
  have hb : ∀ z : Int, z = (if (if (8 : Int) < ns.length then (8 : Int) else ns.length) > 2 then (if (8 : Int) < ns.length then (8 : Int) else ns.length) else 2) → 0 ≤ z ∧ z ≤ 8 := by
    intro z hz
    subst hz
    split <;> split <;> omega
  have hb := hb _ rfl
  generalize (if (if (8 : Int) < ns.length then (8 : Int) else ns.length) > 2 then (if (8 : Int) < ns.length then (8 : Int) else ns.length) else 2) = z at hb ⊢
  rw [if_pos ⟨by omega, by omega⟩]
  refine forD_vals (fun i ρ S => ∃ r1 r2 r3 r4 r5 r6 r7, ρ = [some (.flst (ns.map D.int)), r1, r2, r3, r4, r5, r6, r7, none]) (fun _ _ _ _ => rfl) ?_ ?_ _ 0 _ _ (by simp) ⟨_, _, _, _, _, _, _, rfl⟩
  case refine_2 =>
    rintro ρ S ⟨r1, r2, r3, r4, r5, r6, r7, rfl⟩
    show SP _ _
    rw [sp_seq, s_asg_x]
    try walk_at "dy"
    refine (ok_map (S := S) (xs := rngD 0 30) (f := fun d => .str (ltr (intD d / 5).toNat ++ ltr (intD d % 5).toNat)) (Q := fun v S' => ∃ l, v = .obj l ∧ S'[l]? = some (.lst ((rngD 0 30).map fun d => .str (ltr (intD d / 5).toNat ++ ltr (intD d % 5).toNat))) ∧ Gr [] S S') (by simp [rngD]) rfl (fun d S1 hd g => ?_) (fun l S1 hl g hL => ⟨l, rfl, hL, g⟩)).x fun v S1 ⟨l, ev, hL, g⟩ => ?_
    · obtain ⟨i, hi, rfl⟩ : ∃ i : Nat, i < 30 ∧ d = .int i := by
        unfold rngD at hd
        obtain ⟨i, hi, rfl⟩ := List.mem_map.mp hd
        exact ⟨i, List.mem_range.mp hi, by simp⟩
      rw [ok_x]
      try walk_at "dy"
      have ef : gFdiv (.int (i : Int)) (.int 5) S1 = .ok (.int ((i : Int) / 5)) S1 := by
        unfold gFdiv gI
        simp only
        rw [if_pos (by decide), Int.fdiv_eq_ediv_of_nonneg _ (by decide)]
      have em : gMod (.int (i : Int)) (.int 5) S1 = .ok (.int ((i : Int) % 5)) S1 := by
        unfold gMod gI
        simp only
        rw [if_pos (by decide), Int.fmod_eq_emod_of_nonneg _ (by decide)]
      rw [ef, okx_ok, ix_abcdef (by omega) (by omega), okx_ok, em, okx_ok, ix_abcde (by omega) (by omega), okx_ok, v_addS, if_pos (by
        have a1 : ∀ k : Nat, (ltr k).length = 1 := fun _ => rfl
        rw [a1, a1]
        omega)]
      exact ⟨rfl, Gr.refl⟩
    · subst ev
      have hcw : ∀ x ∈ ((rngD 0 30).map fun d => D.str (ltr (intD d / 5).toNat ++ ltr (intD d % 5).toNat)), ∃ z : Str, x = .str z ∧ Wd z := fun x hx => by
        obtain ⟨d, hd, rfl⟩ := List.mem_map.mp hx
        unfold rngD at hd
        obtain ⟨i, hi, rfl⟩ := List.mem_map.mp hd
        have hi' := List.mem_range.mp hi
        refine ⟨_, rfl, wd_of (crowd_wd _ ?_ _ ?_)⟩
        · show ((0 + (i : Int)) / 5).toNat < 6
          omega
        · show ((0 + (i : Int)) % 5).toNat < 5
          omega
      have hcl : ((rngD 0 30).map fun d => D.str (ltr (intD d / 5).toNat ++ ltr (intD d % 5).toNat)).length = 30 := by rw [List.length_map, rng_len]
      generalize ((rngD 0 30).map fun d => D.str (ltr (intD d / 5).toNat ++ ltr (intD d % 5).toNat)) = cs at hL hcw hcl
      have w1 : Wd "one" := wd_of (by decide +kernel)
      have th : ∀ (S' : Store) (us : List D), (∀ x ∈ us, x ∈ cs) → us.length ≤ 60 → Th 0 S' (.tup [.tup [.str "one", .tup us]]) := fun S' us hu hl => th_tup (k := true) (fun x hx => by
        rw [List.mem_singleton.mp hx]
        refine el_row (w1.pd.mx.up (by decide) (by decide)) ((Mx.tup (h := 1) (w := 82) (n := 60) (fun y hy => ?_) hl (by decide)).up (by decide) (by decide)) fun ws e => by injection e with e; rw [← e]; omega
        obtain ⟨z, rfl, wz⟩ := hcw y (hu y hy)
        exact wz.pd.mx) (by simp)
      rw [v_tupleL hL, if_pos (by omega), if_pos (by omega)]
      refine told_x (p := 0) (th S1 cs (fun x h => h) (by omega)) fun S2 g2 => ?_
      try walk_at "dy"
      rw [sl_t, okx_ok]
      have hn27 : (negPick cs none (some 27)).length ≤ 30 := by
        have := negPick_le cs none (some 27) (by rw [hcl]; decide)
        omega
      have en : fNegT (fVar 8) pNone (pSome (fC (.int 27))) [some (.flst (ns.map D.int)), r1, r2, r3, r4, r5, r6, r7, some (.tup cs)] S2 = .ok (.tup (negPick cs none (some 27))) S2 := by
        unfold fNegT fVar pNone pSome fC
        simp only [Res.bind, List.getElem?_cons_succ, List.getElem?_cons_zero]
        rw [if_pos (by omega)]
      have hc28 : (cutL cs none (some 28)).length ≤ 30 := by have := cut_len (xs := cs) (a := none) (b := some 28); omega
      rw [en, okx_ok, add_t (by omega), okx_ok, if_pos (by omega), if_pos (by omega)]
      refine told_x (p := 0) (th S2 _ (fun x h => ?_) (by rw [List.length_append]; omega)) fun S3 g3 => rfl
      rcases List.mem_append.mp h with h | h
      · exact cut_sub h
      · exact neg_sub h
  rintro i d ρ S hd ⟨r1, r2, r3, r4, r5, r6, r7, rfl⟩
  obtain ⟨rfl, hi⟩ := rng_get hd
  rw [Int.zero_add, ok_x]
  try walk_at "dy"
  rw [sp_seq]
  try walk_at "dy"
  refine (purse_ok (k := i) hn (by omega)).x fun a S1 ⟨p, e, hp, g1, pu⟩ => ?_
  subst e
  try walk_at "dy"
  rw [sp_seq, s_asg_x]
  try walk_at "dy"
  refine (grants_in pu).x fun v S2 ⟨l, ys, ev, hL, h3, hys, g2⟩ => ?_
  subst ev
  rw [v_tupleL hL]
  try walk_at "dy"
  rw [sp_seq]
  try walk_at "dy"
  refine (folk_ok g2.pu).x fun v S3 ⟨gs, ev, h9, hgs, g3⟩ => ?_
  subst ev
  have G3 := g2.trans g3
  have ex : ∀ (k : Bool) (S' : Store), ∀ x ∈ ys, El p k S' x := fun k S' x h => by
    obtain ⟨z, rfl, a, b⟩ := hys x h
    exact el_str a b
  have eg : ∀ (k : Bool) (S' : Store), ∀ x ∈ gs, El p k S' x := fun k S' x h => (hgs x h).el
  have tr : ∀ S', Th p S' (.tup ys) := fun S' => th_tup (ex true S') (by omega)
  have tg : ∀ S', Th p S' (.tup gs) := fun S' => th_tup (eg true S') (by omega)
  clear hL g1 g2 g3
  try walk_at "dy"
  rw [sp_seq]
  try walk_at "dy"
  rw [if_pos ⟨by decide, by decide⟩]
  refine forD_vals (xs := rngD 0 (Int.toNat 6)) (fun t ρ S => (∃ r4 r6 r7, ρ = [some (.flst (ns.map D.int)), some (.int i), some (.obj p), some (.tup ys), r4, some (.tup gs), r6, r7, none]) ∧ Go2 p S3 S) (fun _ _ _ _ => rfl) ?_ ?_ _ 0 _ _ (by simp [rngD]) ⟨⟨_, _, _, rfl⟩, Go2.refl G3.pu⟩
  · rintro t d ρ S4 hd ⟨⟨r4, r6, r7, rfl⟩, g4⟩
    rw [ok_x]
    try walk_at "dy"
    rw [sp_seq]
    try walk_at "dy"
    refine (amiss_r g4.pu hys (by omega)).x fun v5 S5 ⟨h5, g5⟩ => ?_
    try walk_at "dy"
    refine (amiss_g g5.pu hgs h9).x fun v6 S6 ⟨h6, g6⟩ => ?_
    try walk_at "dy"
    refine (odd_ok g6.pu).x fun v7 S7 ⟨h7, g7⟩ => ?_
    try walk_at "dy"
    try rw [if_pos (by omega)]
    have h5' := h5.go (g6.trans g7).gr
    have h6' := h6.go g7.gr
    have h7' := h7.th
    have G7 := g4.trans (g5.trans (g6.trans g7))
    have hL : (S7 ++ [MO.lst [D.tup ys, .tup gs, v5, v6, v7]])[S7.length]? = some (.lst [D.tup ys, .tup gs, v5, v6, v7]) := at_new
    have gN : Gr [] S7 (S7 ++ [MO.lst [D.tup ys, .tup gs, v5, v6, v7]]) := Gr.new
    generalize S7 ++ [MO.lst [D.tup ys, .tup gs, v5, v6, v7]] = S8 at hL gN ⊢
    generalize S7.length = q at hL ⊢
    have ea : fOp gAdd (fVar 6) (fLst (aCons (fVar 3) (aCons (fVar 5) aNil))) [some (.flst (ns.map D.int)), some (.int i), some (.obj p), some (.tup ys), some d, some (.tup gs), some (.obj q), r7, none] S8 = .ok (.obj (S8 ++ [MO.lst [D.tup ys, D.tup gs]]).length) ((S8 ++ [MO.lst [D.tup ys, D.tup gs]]) ++ [MO.lst ([D.tup ys, .tup gs, v5, v6, v7] ++ [D.tup ys, D.tup gs])]) := by
      have e1 : fLst (aCons (fVar 3) (aCons (fVar 5) aNil)) [some (.flst (ns.map D.int)), some (.int i), some (.obj p), some (.tup ys), some d, some (.tup gs), some (.obj q), r7, none] S8 = .ok (.obj S8.length) (S8 ++ [MO.lst [D.tup ys, D.tup gs]]) := by
        unfold fLst aCons fVar aNil
        simp only [Res.bind, List.getElem?_cons_succ, List.getElem?_cons_zero, List.length_cons, List.length_nil]
        rw [if_pos (by omega)]
      have e2 : fVar 6 [some (.flst (ns.map D.int)), some (.int i), some (.obj p), some (.tup ys), some d, some (.tup gs), some (.obj q), r7, none] S8 = .ok (.obj q) S8 := rfl
      unfold fOp
      rw [e2]
      simp only [Res.bind]
      rw [e1]
      simp only [Res.bind]
      unfold gAdd
      simp only [(Gr.new (W := []) (o := MO.lst [D.tup ys, .tup gs])).at0 hL, at_new]
      rw [if_pos (by simp only [List.length_cons, List.length_nil]; omega)]
    rw [lc_x ea]
    have g9 : Gr [] S8 ((S8 ++ [MO.lst [D.tup ys, .tup gs]]) ++ [MO.lst ([D.tup ys, .tup gs, v5, v6, v7] ++ [D.tup ys, D.tup gs])]) := Gr.new.trans Gr.new
    have hL9 : ((S8 ++ [MO.lst [D.tup ys, .tup gs]]) ++ [MO.lst ([D.tup ys, .tup gs, v5, v6, v7] ++ [D.tup ys, D.tup gs])])[(S8 ++ [MO.lst [D.tup ys, .tup gs]]).length]? = some (.lst ([D.tup ys, .tup gs, v5, v6, v7] ++ [D.tup ys, D.tup gs])) := at_new
    generalize (S8 ++ [MO.lst [D.tup ys, .tup gs]]) ++ [MO.lst ([D.tup ys, .tup gs, v5, v6, v7] ++ [D.tup ys, D.tup gs])] = S9 at g9 hL9 ⊢
    generalize (S8 ++ [MO.lst [D.tup ys, .tup gs]]).length = q9 at hL9 ⊢
    have G9 := gN.trans g9
    refine (all_told (p := p) hL9 (by simp) (fun x hx => ?_) (fC (.obj q9)) rfl).x fun v S10 ⟨l10, ev, hL10, g10⟩ => ?_
    · simp only [List.cons_append, List.nil_append, List.mem_cons, List.not_mem_nil, or_false] at hx
      rcases hx with rfl | rfl | rfl | rfl | rfl | rfl | rfl
      · exact tr _
      · exact tg _
      · exact h5'.go G9.w
      · exact h6'.go G9.w
      · exact h7'.go G9.w
      · exact tr _
      · exact tg _
    · subst ev
      try walk_at "dy"
      have eb : ([D.tup ys, .tup gs, v5, v6, v7] ++ [D.tup ys, D.tup gs]).map (fun _ => D.bl true) = (([D.tup ys, .tup gs, v5, v6, v7] ++ [D.tup ys, D.tup gs]).map fun _ => true).map D.bl := by rw [List.map_map]; rfl
      rw [eb] at hL10
      rw [v_allL hL10, all_told_t]
      try walk_at "dy"
      exact ⟨⟨_, _, _, rfl⟩, G7.same (G9.trans g10)⟩
  · rintro ρ S4 ⟨⟨r4, r6, r7, rfl⟩, g4⟩
    try walk_at "dy"
    have wa : Wd "a" := wd_of (by decide +kernel)
    have wb : Wd "b" := wd_of (by decide +kernel)
    rw [sl_t, okx_ok]
    refine told_x (p := p) (th_tup (k := true) (fun x h => eg true _ x (cut_sub h)) (Nat.le_trans cut_len (by omega))) fun S5 g5 => ?_
    try walk_at "dy"
    iterate 5 rw [if_pos (by omega)]
    refine told_x (p := p) (th_tup (k := true) (fun x h => ?_) (by simp)) fun S6 g6 => ?_
    · simp only [List.mem_cons, List.not_mem_nil, or_false] at h
      rcases h with rfl | rfl
      · exact RowQ.el ⟨"a", [], rfl, wa, by simp, by simp⟩
      · refine RowQ.el ⟨"b", ["a", "b"], rfl, wb, by simp, fun z hz => ?_⟩
        simp only [List.mem_cons, List.not_mem_nil, or_false] at hz
        rcases hz with rfl | rfl
        · exact wa
        · exact wb
    try walk_at "dy"
    rw [if_pos (by omega)]
    refine told_x (p := p) (th_tup (k := true) (by simp) (by simp)) fun S7 g7 => ?_
    try walk_at "dy"
    exact ⟨_, _, _, _, _, _, _, rfl⟩
end Fz
namespace Fz
open PySem PySem.Spec PyProof.Rows L2 Dz
theorem chk_of {K : PySem.W.Frag} (h : chk K = true) : (∀ m H, RV K m H (.tup [(.str ""), (.str "r"), (.str "w"), (.str "rw")]) (.ref (He.ga K "GIVEN_RIGHTS"))) := by
  unfold chk at h
  exact tupB_ok h
theorem md_of {K : PySem.W.Frag} {w : World} {h : Heap} {mg : Str → Option Value} (X : K.In h) (G : h.Ns mainGlobals mg) (cc : SaysZ fal fnl chk tbs w K) : Md K w mg := by
  have c := cc.d
  have hc := cc.c
  have h0 := chk_of hc
  exact {
  z_all := He.free_ok X G (c.fact 0 (f := .free "all") rfl)
  z_bool := He.free_ok X G (c.fact 1 (f := .free "bool") rfl)
  z_isinstance := He.free_ok X G (c.fact 2 (f := .free "isinstance") rfl)
  z_len := He.free_ok X G (c.fact 3 (f := .free "len") rfl)
  z_list := He.free_ok X G (c.fact 4 (f := .free "list") rfl)
  z_max := He.free_ok X G (c.fact 5 (f := .free "max") rfl)
  z_min := He.free_ok X G (c.fact 6 (f := .free "min") rfl)
  z_range := He.free_ok X G (c.fact 7 (f := .free "range") rfl)
  z_repr := He.free_ok X G (c.fact 8 (f := .free "repr") rfl)
  z_set := He.free_ok X G (c.fact 9 (f := .free "set") rfl)
  z_sorted := He.free_ok X G (c.fact 10 (f := .free "sorted") rfl)
  z_str := He.free_ok X G (c.fact 11 (f := .free "str") rfl)
  z_tuple := He.free_ok X G (c.fact 12 (f := .free "tuple") rfl)
  gt_GIVEN_RIGHTS := He.glo_ok X G (c.fact 13 (f := .glo "GIVEN_RIGHTS") rfl)
  c_LETTERS := He.str_ok X G (c.fact 14 (f := .str "LETTERS" "abcdefghijklmnopqrstuvwxyz") rfl)
  c_MOST_GROUPS := He.int_ok X G (c.fact 15 (f := .int "MOST_GROUPS" 8) rfl)
  c_MOST_LETTERS := He.int_ok X G (c.fact 16 (f := .int "MOST_LETTERS" 8) rfl)
  g_law_purse := He.glo_ok X G (c.fact 17 (f := .glo "_law_purse") rfl)
  d_law_purse := c.def_ 0 (d := dd_law_purse) rfl
  g_law_take := He.glo_ok X G (c.fact 18 (f := .glo "_law_take") rfl)
  d_law_take := c.def_ 1 (d := dd_law_take) rfl
  g_law_words := He.glo_ok X G (c.fact 19 (f := .glo "_law_words") rfl)
  d_law_words := c.def_ 2 (d := dd_law_words) rfl
  g_law_folk := He.glo_ok X G (c.fact 20 (f := .glo "_law_folk") rfl)
  d_law_folk := c.def_ 3 (d := dd_law_folk) rfl
  g_law_are_rights := He.glo_ok X G (c.fact 21 (f := .glo "_law_are_rights") rfl)
  d_law_are_rights := c.def_ 4 (d := dd_law_are_rights) rfl
  g_law_is_word := He.glo_ok X G (c.fact 22 (f := .glo "_law_is_word") rfl)
  d_law_is_word := c.def_ 5 (d := dd_law_is_word) rfl
  g_law_are_groups := He.glo_ok X G (c.fact 23 (f := .glo "_law_are_groups") rfl)
  d_law_are_groups := c.def_ 6 (d := dd_law_are_groups) rfl
  g_is_rights := He.glo_ok X G (c.fact 24 (f := .glo "is_rights") rfl)
  d_is_rights := c.def_ 7 (d := dd_is_rights) rfl
  g_are_growing := He.glo_ok X G (c.fact 25 (f := .glo "are_growing") rfl)
  d_are_growing := c.def_ 8 (d := dd_are_growing) rfl
  g_is_word := He.glo_ok X G (c.fact 26 (f := .glo "is_word") rfl)
  d_is_word := c.def_ 9 (d := dd_is_word) rfl
  g_are_users := He.glo_ok X G (c.fact 27 (f := .glo "are_users") rfl)
  d_are_users := c.def_ 10 (d := dd_are_users) rfl
  g_is_group := He.glo_ok X G (c.fact 28 (f := .glo "is_group") rfl)
  d_is_group := c.def_ 11 (d := dd_is_group) rfl
  g_is_groups := He.glo_ok X G (c.fact 29 (f := .glo "is_groups") rfl)
  d_is_groups := c.def_ 12 (d := dd_is_groups) rfl
  g_law_told := He.glo_ok X G (c.fact 30 (f := .glo "_law_told") rfl)
  d_law_told := c.def_ 13 (d := dd_law_told) rfl
  g_law_rights_amiss := He.glo_ok X G (c.fact 31 (f := .glo "_law_rights_amiss") rfl)
  d_law_rights_amiss := c.def_ 14 (d := dd_law_rights_amiss) rfl
  g_law_odd := He.glo_ok X G (c.fact 32 (f := .glo "_law_odd") rfl)
  d_law_odd := c.def_ 15 (d := dd_law_odd) rfl
  g_law_groups_amiss := He.glo_ok X G (c.fact 33 (f := .glo "_law_groups_amiss") rfl)
  d_law_groups_amiss := c.def_ 16 (d := dd_law_groups_amiss) rfl
  g_law := He.glo_ok X G (c.fact 34 (f := .glo "law") rfl)
  d_law := c.def_ 17 (d := dd_law) rfl
  t_GIVEN_RIGHTS := h0
  }
/-- the law, as it stands in the heap -/
def spLaw (K : PySem.W.Frag) : Sp := fun vs H Q _ => ∃ (a : Addr) (ns : List Int), vs = [.ref a] ∧ FzL K H a (ns.map V.int) ∧ ns.length ≤ 63 ∧ ∀ H', Q (.bl true) H'
theorem ints_rv {K : PySem.W.Frag} {m : List Addr} {H : Hp} : ∀ ns : List Int, RVs K m H (ns.map D.int) (ns.map V.int)
  | [] => .nil
  | n :: r => .cons (.int n) (ints_rv r)
theorem facts {P : Program} {w : World} {K : PySem.W.Frag} {h : Heap} {mg : Str → Option Value} {f : Addr} (X : K.In h) (G : h.Ns mainGlobals mg) (hfa : mg ("law" : Str) = some (.ref f)) (c : SaysZ fal fnl chk tbs w K) :
    ∃ fd : FuncData, (∀ (s : Shared) (v : Value), BindsTo s fd ⟨[v], []⟩ [("_law_script", v)]) ∧ ∀ base : Heap, K.In base → base.Ns mainGlobals mg → FnG P w K mg base (L2.CX P w) 6 f fd ["_law_script"] (spLaw K) := by
  have M := md_of X G c
  have e := hfa.symm.trans M.g_law
  cases e
  obtain ⟨fd, F⟩ := M.d_law
  have b := FunD.bindsA (ps := ["_law_script"]) F fun _ _ _ _ _ _ us hl => match us, hl with | [_], _ => rfl
  refine ⟨fd, fun s v => b s [v] rfl, fun base _ _ => FnG.imp (fn_law M F) fun vs H Q E ⟨a, ns, e, hl, hn, q⟩ => ?_⟩
  subst e
  obtain ⟨S', hS⟩ := law_true ns hn
  refine ⟨[], [.flst (ns.map D.int)], [], ⟨rfl, fun i j a h => by simp at h, fun i a o h => by simp at h⟩, .cons (.flst hl (ints_rv ns)) .nil, rfl, ?_⟩
  rw [hS]
  intro m' H' v rl x r
  cases r
  exact q H'
end Fz
open PySem PySem.W PySem.Calls PyProof.Rows
set_option maxRecDepth 100000 in
set_option maxHeartbeats 0 in
theorem PySem.Challenge.cw_farfiles_k02_rights_and_groups_of_any_ki_holds : PySem.Challenge.rw_farfiles_k02_rights_and_groups_of_any_ki.Holds := by
  w_on; o_law
  refine HandSHeadRun.head_any (r := OpenLaw.row PySem.Challenge.rw_farfiles_k02_rights_and_groups_of_any_ki) (q := view (OpenLaw.row PySem.Challenge.rw_farfiles_k02_rights_and_groups_of_any_ki).prog [23]) (H := Fz.hk) (ob := Fz.ob) (M := 40000) (loose := Fz.loose) (d := HandSHeadRun.topDef (OpenLaw.row PySem.Challenge.rw_farfiles_k02_rights_and_groups_of_any_ki).prog 23) (kwd := []) Fz.ob_eq
    (by kernel_rfl) (fun s => by kernel_rfl) Fz.run (by kernel_rfl) (by kernel_rfl) (by kernel_rfl) (by rfl) (by first | assumption | decide +kernel) (by decide +kernel) ⟨rfl, rfl, rfl, rfl, rfl, by decide +kernel⟩ ?hw ?hc
  case hw => w_witness2
  case hc =>
    refine Fz.walk_ofZ (l := PySem.Challenge.rw_farfiles_k02_rights_and_groups_of_any_ki) (n := 63) (k := 6) (x := "_law_script") rfl (by decide) (by kernel_rfl) ⟨⟨rfl, by decide, by decide⟩, rfl⟩ ?F
    intro w mg fa h Y G hmg0
    obtain ⟨K, KX, c⟩ := Y
    have hmg : mg ("law" : PySem.Str) = some (.ref fa) := by
      have e : (HandSHeadRun.topDef (OpenLaw.row PySem.Challenge.rw_farfiles_k02_rights_and_groups_of_any_ki).prog 23).name = ("law" : PySem.Str) := by kernel_rfl
      rw [← e]
      exact hmg0
    obtain ⟨fd, hb, hF⟩ := Fz.facts (P := (PySem.Challenge.rw_farfiles_k02_rights_and_groups_of_any_ki).prog) (w := w) KX G hmg c
    exact ⟨K, fd, Fz.spLaw K, KX, hb, fun H a ns hl hS => ⟨a, ns, rfl, hS, hl, fun _ => rfl⟩, hF⟩
