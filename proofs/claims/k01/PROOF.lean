import PyProof.Rows.All
import Wide.All
import OpenK.AllK
import Wide.FinOn
import KE.KStateDown
import Lean
import HandS.ForMost
import HandS.Walk
import PyProof.StrLawsRepr
import PyProof.ReprRoads
import HandS.Exc
import HandS.More
import HandS.TryOnly
import HandS.ExcOwn
import HandS.WordsExc
import HandS.IsInst
import HandS.Style
import HandS.TupLe
import HandS.TupAny
import HandS.TupMul
import HandS.Defaults
import HandS.Evl
import HandS.Head0
import HandS.Head1
import HandS.Head2
import HandS.HeadEnd
import HandS.HeadHook1
import HandS.HeadHook2
import PySem.Challenge.RW_farfiles_k01_words_and_paths_of_any_kind
set_option Elab.async false
set_option linter.all false
set_option maxRecDepth 100000
set_option maxHeartbeats 4000000
/-! ### defs that may ask for repr: the room knows that no repr runs around -/
namespace Fz
open PySem PySem.Spec PyProof.Rows L2
structure RoomG (k : Nat) (A : Around) : Prop extends Room k A where
  gs : A.guards = some []
theorem RoomG.mono {j k : Nat} {A : Around} (r : RoomG k A) (h : j ≤ k) : RoomG j A := ⟨r.toRoom.mono h, r.gs⟩
theorem guards_deeper {A : Around} {env : Env} : (A.deeper env).guards = A.guards := by
  first
    | rfl
    | (cases h : A.guards <;> simp [Around.deeper, Around.under, h, Code.guards, Code.isGuard, pushGuards])
theorem RoomG.deeper {k : Nat} {A : Around} (r : RoomG (k + 1) A) (env : Env) : RoomG k (A.deeper env) := ⟨r.toRoom.deeper env, guards_deeper.trans r.gs⟩
section
variable {P : Program} {w : World} {K : PySem.W.Frag} {mg : Str → Option Value} {base : Heap} {CX : CXT} {k : Nat} {f : Addr} {fd : FuncData} {ps : List Str} {sp : Sp}
variable (P w K mg base CX k f fd ps sp) in
structure FnG : Prop where
  len : ∀ vs H Q E, sp vs H Q E → vs.length = ps.length
  run : ∀ (A : Around) (outer : List Env) (s : Shared) (H : Hp) (args : Args) (us : List Value) (vs : List V) (Q : VK) (E : XK), RoomG k A → Env0 P w K mg base A outer s H → BindsTo s fd args (ps.zip us) → Vals vs us → sp vs H Q E →
    codeAny (model P w) A (.call (.ref f) args) (CR CX outer P w H s Q E) s
theorem FnG.of (F : FnOk P w K mg base CX k f fd ps sp) : FnG P w K mg base CX k f fd ps sp := ⟨F.len, fun A outer s H args us vs Q E hr => F.run A outer s H args us vs Q E hr.toRoom⟩
theorem FnG.imp {sp' : Sp} (F : FnG P w K mg base CX k f fd ps sp) (h : ∀ vs H Q E, sp' vs H Q E → sp vs H Q E) : FnG P w K mg base CX k f fd ps sp' :=
  ⟨fun vs H Q E q => F.len vs H Q E (h _ _ _ _ q), fun A outer s H args us vs Q E hr he hb hv hs => F.run A outer s H args us vs Q E hr he hb hv (h _ _ _ _ hs)⟩
/-- the rule for a def, by its body -/
theorem _root_.L2.FunD.okG {x qual : Str} {params : Arguments} {body : List Stmt} {scope : Scope} {dvs : List V} {kws : List (Str × V)} {N : List Str} (F : FunD K x qual params body scope dvs kws f fd) (S : FnScope N ps scope) (len : ∀ vs H Q E, sp vs H Q E → vs.length = ps.length)
    (hbody : ∀ (cdv : Value) (A : Around) (outer : List Env) (s : Shared) (H : Hp) (vs : List V) (Q : VK) (E : XK), RoomG k (A.deeper (envOfC qual scope s.heap.objs.size f cdv)) → sp vs H Q E →
      ∃ t, PSs (cxOf CX P w K mg base N qual scope f cdv A outer s H E) body t ∧ t { nx := fun _ H' => Q .non H', rt := Q } (start N vs) H) : FnG P w K mg base CX (k + 1) f fd ps sp := by
  obtain ⟨oc, od, dV, kV, doc, pm, an, cdv, ct, osl, rfl, lk, hcd, _, _⟩ := F.ex
  refine ⟨len, fun A outer s H args us vs Q E hr e0 hb r hsp => ?_⟩
  have keep : ∀ b o, base.get? b = some o → s.heap.get? b = some o := fun b o e => (e0.bs b o e).1
  have KX : K.In s.heap := e0.mod.kin.keeps keep
  have hkind : ∀ y ∈ ps.zip us, scope.names.lookup y.1 = some .local ∨ (scope.names.lookup y.1 = some .cell ∧ ((cellsFrom (s.heap.objs.size + 1) scope.names []).lookup y.1).isSome = true) := fun ⟨n, v⟩ hy =>
    (S.par n (List.of_mem_zip hy).1).imp id fun q => ⟨q, PySem.W.cellsFrom_some _ _ _ (.inl q)⟩
  refine codeAny_call_function hr.toRoom.depth (KX _ _ lk) rfl S.co S.gen rfl (PySem.W.codeRec_of KX hcd) (hb _ _ _ _ ?_)
  refine wpAny_newFunctionEnv_cells S.kind hkind fun env he s1 x => ?_
  subst he
  refine ⟨(e0.mod.nolimit.keeps keep).keeps x.toInCall.keep, codeAny_func ?_⟩
  obtain ⟨t, ht, hq⟩ := hbody cdv A outer s H vs Q E (hr.deeper _) hsp
  refine wpAny_mono (ht.run [] s1 (start N vs) H _ (inv_start S hr.hd e0 (len _ _ _ _ hsp) r x) hq) (fun fl s' hs => ?_) fun e s' hs => hs
  cases fl with
  | ret u => obtain ⟨v, σ', H', J, rv, q⟩ := hs; exact ⟨v, H', J.os, J.bare, J.base, J.hok, rv, q⟩
  | next => obtain ⟨σ', H', J, q⟩ := hs; exact ⟨.non, H', J.os, J.bare, J.base, J.hok, rfl, q⟩
  | brk => obtain ⟨_, _, _, q⟩ := hs; exact q.elim
  | cont => obtain ⟨_, _, _, q⟩ := hs; exact q.elim
end
/-! ### calls of such defs -/
section
variable {X : Cx} {CX : CXT} {k n : Nat} {f : Addr} {fd : FuncData} {ps ks : List Str} {sp : Sp} {dvs : List V} {ds : List Value} {E : XK} {x : Str} {p pos : Pos} {e : Expr} {es : List Expr} {kws : List Keyword} {t tk : TA} {g : List Value → List Value → List Value} {gV : List V → List V → List V}
theorem run_any {pins : List (Addr × Obj)} {σ : L2.St} {H : Hp} {s : Shared} {Q : VK} {us ws : List Value} {kw : List (Str × Value)} {zs : List V} (F : FnG X.prog X.w X.K X.mg X.base CX k f fd ps sp) (hr : RoomG k X.A) (hb : BindsTo s fd ⟨us, kw⟩ (ps.zip ws)) (hx : Passes CX X E)
    (I : Inv X pins σ H s) (r : Vals zs ws) (h : sp zs H Q E) : wpAny (model X.prog X.w) X.A (call (.ref f) us kw) (EP X pins σ Q) X.xe s := by
  refine wpAny_call (codeAny_mono (F.run X.A X.stack s H ⟨us, kw⟩ ws zs Q E hr I.env0 hb r h) fun r s' hq => ?_)
  cases r with
  | error e => exact hx pins σ H s e s' I hq
  | ok fl =>
    cases fl with
    | ret u => exact I.after hq
    | next => exact False.elim hq
    | brk => exact False.elim hq
    | cont => exact False.elim hq
theorem run_fnG {pins : List (Addr × Obj)} {σ : L2.St} {H : Hp} {s : Shared} {Q : VK} {us : List Value} {vs : List V} (F : FnG X.prog X.w X.K X.mg X.base CX k f fd ps sp) (hr : RoomG k X.A) (hb : Binds X.K fd ps ds) (hd : Vals dvs ds) (hx : Passes CX X E)
    (I : Inv X pins σ H s) (r : Vals vs us) (h : sp (vs ++ dvs) H Q E) : wpAny (model X.prog X.w) X.A (call (.ref f) us) (EP X pins σ Q) X.xe s :=
  run_any F hr (hb s us I.kIn (by rw [← (r.append hd).length]; exact F.len _ _ _ _ h)) hx I (r.append hd) h
theorem pe_callG (F : FnG X.prog X.w X.K X.mg X.base CX k f fd ps sp) (hr : RoomG k X.A) (hg : Gl X x) (hm : X.mg x = some (.ref f)) (hk : PySem.W.keepIn X.K (.ref f) = true) (hb : Binds X.K fd ps ds) (hd : Vals dvs ds) (hx : Passes CX X E)
    (ha : PA X (e :: es) t) (hdb : (x == ("__debug__" : Str)) = false := by decide) (he : starEach (e :: es) X.env = (false, eval e X.env) :: starEach es X.env := by rfl) (hpl : (backTo pos (starEach es X.env)).any (·.1) = false := by rfl) :
    PE X (.Call (.Name x p) (e :: es) [] pos) (tCall sp dvs E t) := by
  refine ⟨fun pins s σ H Q I h => ?_⟩
  refine wpAny_Call_Name_kw (ld_glob I hg hm ?_ hdb)
  refine PySem.W.callWith_K (h₀ := X.base) I.ok.mod.kin hk (thn (ha.run pos pins s σ H _ I h) fun us s1 ⟨vs, H1, I1, r, q⟩ => ⟨I1.kIn, ?_⟩) he hpl
  exact run_fnG F hr hb hd hx I1 r q
theorem pe_call0G (F : FnG X.prog X.w X.K X.mg X.base CX k f fd ps sp) (hr : RoomG k X.A) (hg : Gl X x) (hm : X.mg x = some (.ref f)) (hk : PySem.W.keepIn X.K (.ref f) = true) (hb : Binds X.K fd ps ds) (hd : Vals dvs ds) (hx : Passes CX X E)
    (hdb : (x == ("__debug__" : Str)) = false := by decide) : PE X (.Call (.Name x p) [] [] pos) (tCall sp dvs E tNil) := by
  refine ⟨fun pins s σ H Q I h => ?_⟩
  refine wpAny_Call_Name_kw (ld_glob I hg hm ?_ hdb)
  exact PySem.W.callWith_K0 I.kIn hk (run_fnG (us := []) F hr hb hd hx I .nil h)
theorem pe_callNG (F : FnG X.prog X.w X.K X.mg X.base CX k f fd ps sp) (hr : RoomG k X.A) (hg : Gl X x) (hm : X.mg x = some (.ref f)) (hk : PySem.W.keepIn X.K (.ref f) = true) (hb : KBn X.K fd ps n ks g gV) (hx : Passes CX X E)
    (ha : PA X (e :: es) t) (hkw : PK X kws tk) (hall : (backToKw pos (keywordEach kws X.env)).all (·.1.isSome) = true := by rfl) (hks : (backToKw pos (keywordEach kws X.env)).filterMap (·.1) = ks := by rfl)
    (hdb : (x == ("__debug__" : Str)) = false := by decide) (he : starEach (e :: es) X.env = (false, eval e X.env) :: starEach es X.env := by rfl)
    (hpl : ((backTo pos (starEach (e :: es) X.env)).any (·.1) || (backToKw pos (keywordEach kws X.env)).any (·.1.isNone)) = false := by rfl) :
    PE X (.Call (.Name x p) (e :: es) kws pos) (tCallN n ks.length sp gV E t tk) := by
  refine ⟨fun pins s σ H Q I h => ?_⟩
  refine wpAny_Call_Name_kw (ld_glob I hg hm ?_ hdb)
  refine PySem.W.callWith_KW (h₀ := X.base) I.ok.mod.kin hk hall (thn (ha.run pos pins s σ H _ I h) fun us s1 ⟨vs, H1, I1, r, q⟩ => ?_) hpl he
  refine thn (hkw.run pos pins s1 σ H1 _ I1 q) fun ws s2 ⟨zs, H2, I2, rz, l1, l2, q2⟩ => ⟨I2.kIn, ?_⟩
  rw [hks]
  exact run_any F hr (hb.to s2 us ws I2.kIn (r.length.symm.trans l1) (rz.length.symm.trans l2)) hx I2 (hb.rel r rz) q2
end
/-! ### the law's end -/
theorem law_callG {P : Program} {w : World} {K : PySem.W.Frag} {mg mb : Str → Option Value} {CX : CXT} {k : Nat} {fa a : Addr} {fd : FuncData} {x : Str} {sp : Sp} {s₁ : Shared} {vs : List Value} {ns : List Int}
    (KX : K.In s₁.heap) (hns : s₁.heap.Ns mainGlobals mg) (hb : s₁.heap.Ns builtinsNs mb) (hbb : ∀ x : Str, x ≠ "__name__" → mb x = bootBuiltins x) (hlim : s₁.heap.NoLimit) (hg : s₁.gens = #[])
    (ha : s₁.heap.get? a = some { cls := .type "list", data := .seq vs.toArray }) (hi : IntsAre vs ns) (hl : ns.length ≤ sizeLine) (hr : RoomG k callerA)
    (F : ∀ base : Heap, K.In base → base.Ns mainGlobals mg → FnG P w K mg base CX k fa fd [x] sp) (hbind : ∀ (s : Shared) (u : Value), BindsTo s fd ⟨[u], []⟩ [(x, u)])
    (hsp : ∀ H : Hp, Only H → SqL K H a (ns.map V.int) → sp [.ref a] H (fun v _ => v = .bl true) fun _ _ _ => False)
    (hCX : ∀ H e s', CX [] H s₁ (fun _ _ _ => False) e s' → False) :
    codeAny (model P w) callerA (.call (.ref fa) ⟨[.ref a], []⟩) (fun r s' => r = .ok (.ret (.bool true)) ∧ OldK s₁.heap s'.heap ∧ s'.os = s₁.os ∧ AllBare s'.gens) s₁ := by
  have rv := vals_ints hi
  have core : ∀ H : Hp, Only H → SqL K H a (ns.map V.int) → HOk P w H s₁.heap → (∀ b, H b ≠ none → b = a) → (H a ≠ none → K.lookup a = none) →
      codeAny (model P w) callerA (.call (.ref fa) ⟨[.ref a], []⟩) (fun r s' => r = .ok (.ret (.bool true)) ∧ OldK s₁.heap s'.heap ∧ s'.os = s₁.os ∧ AllBare s'.gens) s₁ := by
    intro H hO hS hok hA hK
    have at_ : ∀ {b : Addr}, H b ≠ none → b = a ∧ K.lookup a = none := fun {b} q => by
      have e := hA b q
      subst e
      exact ⟨rfl, hK q⟩
    have nsK : ∀ {b : Addr} {m : Str → Option Value}, s₁.heap.Ns b m → (hidT s₁.heap H).Ns b m := fun {b m} ⟨o, es, ep, e, d, r⟩ => by
      refine ⟨o, es, ep, hidT_get e ?_, d, r⟩
      refine Classical.byContradiction fun q => ?_
      obtain ⟨rfl, _⟩ := at_ q
      rw [ha] at e
      cases e
      cases (show Data.seq vs.toArray _ = Data.dict es ep from d)
    have hKb : K.In (hidT s₁.heap H) := fun b o e => hidT_get (KX b o e) <| Classical.byContradiction fun q => by
      obtain ⟨rfl, z⟩ := at_ q
      rw [z] at e
      cases e
    have hM : Mod K mg (hidT s₁.heap H) := ⟨hKb, nsK hns, ⟨mb, nsK hb, hbb⟩, let ⟨mc, h1, h2⟩ := hlim; ⟨mc, nsK h1, h2⟩⟩
    have e0 : Env0 P w K mg (hidT s₁.heap H) callerA [] s₁ H := ⟨rfl, hM, fun b o e => of_hidT e, Nat.le_of_eq (hidT_size _ _), trivial, fun b hb => absurd (show b ∈ ([] : List Addr) from hb) (by simp), hok, .of_eq hg⟩
    refine codeAny_mono ((F _ hKb (nsK hns)).run callerA [] s₁ H ⟨[.ref a], []⟩ [.ref a] [.ref a] _ _ hr e0 (hbind s₁ (.ref a)) (.cons rfl .nil) (hsp H hO hS)) fun r s' h => ?_
    cases r with
    | error e => exact (hCX H e s' h).elim
    | ok fl =>
      cases fl with
      | next => exact False.elim h
      | brk => exact False.elim h
      | cont => exact False.elim h
      | ret u =>
        obtain ⟨v, H', os, bare, un, hok', r', q⟩ := h
        cases (show v = .bl true from q)
        cases (show u = Value.bool true from r')
        refine ⟨rfl, OldK.of_keep fun b o e => ?_, os, bare⟩
        rcases hO b with z | ⟨ob, xs, z⟩
        · exact un.keep b o e z (fun z => absurd (show b ∈ ([] : List Addr) from z) (by simp)) (by simp)
        · have e1 := (hok b _ z).1
          have e2 := (hok' b _ (un.frzs b ob _ z)).1
          rw [e] at e1
          cases e1
          exact e2
  cases hk : K.lookup a with
  | some o =>
    have e := KX a o hk
    rw [ha] at e
    cases e
    exact core (fun _ => none) (fun _ => .inl rfl) (.inr ⟨_, vs.toArray, _, hk, rfl, rfl, rfl, by rw [List.size_toArray, hi.length]; exact hl, by simpa using rv⟩) (fun b u z => by cases (show (none : Option HO) = some u from z)) (fun b z => absurd rfl z) fun z => absurd rfl z
  | none =>
    refine core (fun b => if b = a then some (.frz { cls := .type "list", data := .seq vs.toArray } (.lst (ns.map V.int))) else none) (fun b => ?_) (.inl (.inr ⟨{ cls := .type "list", data := .seq vs.toArray }, if_pos rfl⟩)) (fun b u z => ?_) (fun b z => ?_) fun _ => hk
    · by_cases hb : b = a
      · exact .inr ⟨_, _, if_pos hb⟩
      · exact .inl (if_neg hb)
    · by_cases hb : b = a
      · cases (if_pos hb).symm.trans z
        subst hb
        exact ⟨ha, by rw [List.length_map]; exact hl, vs, _, rv, ha⟩
      · cases (if_neg hb).symm.trans z
    · by_cases hb : b = a
      · exact hb
      · exact absurd (if_neg hb) z
theorem walk_ofG {l : PySem.W.OpenLaw} {n k : Nat} {q : Program} {loose : List Str} {XP : (Str → Option Value) → Heap → Prop} {YP : World → Heap → Prop} {d : DefRec} {CX : CXT} {x : Str}
    (hn : l.most = some n) (hn2 : n ≤ sizeLine) (hdf : d.params.defaults = []) (hr : RoomG k callerA)
    (F : ∀ (w : World) (mg : Str → Option Value) (fa : Addr) (h : Heap), YP w h → h.Ns mainGlobals mg → mg d.name = some (.ref fa) →
      ∃ (K : PySem.W.Frag) (fd : FuncData) (sp : Sp), K.In h ∧ (∀ (s : Shared) (u : Value), BindsTo s fd ⟨[u], []⟩ [(x, u)]) ∧
        (∀ (H : Hp) (a : Addr) (ns : List Int), ns.length ≤ n → Only H → SqL K H a (ns.map V.int) → sp [.ref a] H (fun v _ => v = .bl true) fun _ _ _ => False) ∧
        ∀ base : Heap, K.In base → base.Ns mainGlobals mg → FnG l.prog w K mg base CX k fa fd [x] sp)
    (hCX : ∀ (H : Hp) (s : Shared) (e : Value) (s' : Shared), CX [] H s (fun _ _ _ => False) e s' → False) :
    PySem.W.WalkO q loose XP YP l.row.toRowW d [] (fun f vs => PySem.call f vs) := by
  refine Att.attach_call hn hdf fun w s₀ s₁ mg mb fa o pm cd doc a vs ns G Y ho hd hcd hmg hobj hints hlen hg => ?_
  obtain ⟨K, fd, sp, KX, hb, hsp, hF⟩ := F w mg fa _ Y G.T.g hmg
  exact law_callG KX G.T.g G.T.b G.T.builtins G.T.nolimit hg hobj hints (Nat.le_trans hlen hn2) hr hF hb (fun H hO hS => hsp H a ns hlen hO hS) fun H e s' => hCX H s₁ e s'
end Fz
/-! ### the layer of this work: heaps that go on, defs by name, readings step by step -/
namespace Fz
open PySem L2
section
variable {K : PySem.W.Frag} {H H' H1 H2 : Hp} {a p : Addr} {o : HO} {xs : List V}
theorem new_same (hp : H p = none) : Same H (upd H p o) := fun b u e => by rw [upd_ne (ne_of_none e hp)]; exact e
theorem same_tup (e : Same H H') (h : SqT K H a xs) : SqT K H' a xs := by
  rcases h with (h | ⟨o, h⟩) | h
  · exact .inl (.inl (e _ _ h))
  · exact .inl (.inr ⟨o, e _ _ h⟩)
  · exact .inr h
theorem tof (h : H a = some (.tup xs)) : SqT K H a xs := .inl (.inl h)
theorem lof (h : H a = some (.lst xs)) : SqL K H a xs := .inl (.inl h)
/-- what never changes: tuples, and what is locked -/
def Imm : HO → Prop
  | .tup _ => True
  | .frz _ _ => True
  | _ => False
/-- these stay -/
def Tu (H H' : Hp) : Prop := ∀ b o, H b = some o → Imm o → H' b = some o
theorem Tu.tup (e : Tu H H') (h : SqT K H a xs) : SqT K H' a xs := by
  rcases h with (h | ⟨o, h⟩) | h
  · exact .inl (.inl (e _ _ h trivial))
  · exact .inl (.inr ⟨o, e _ _ h trivial⟩)
  · exact .inr h
theorem Tu.of (e : Same H H') : Tu H H' := fun b o h _ => e b o h
theorem Tu.refl (H : Hp) : Tu H H := fun _ _ h _ => h
theorem Tu.trans (a : Tu H H1) (b : Tu H1 H2) : Tu H H2 := fun c o h n => b c o (a c o h n) n
theorem Tu.but {l : Addr} {u : HO} (h : H l = some u) (m : ¬ Imm u) (k : ∀ b o, H b = some o → b ≠ l → H' b = some o) : Tu H H' := fun b o e n => k b o e (by
  rintro rfl
  rw [h] at e
  cases e
  exact m n)
theorem Tu.set {l : Addr} {ys : List V} (h : H l = some (.lst ys)) (o : HO) : Tu H (upd H l o) := Tu.but h (fun z => z) fun b u e n => by rw [upd_ne n]; exact e
/-- all but one list stay -/
def But (p : Addr) (H H' : Hp) : Prop := ∀ b o, H b = some o → b ≠ p → H' b = some o
theorem But.of (e : Same H H') : But p H H' := fun b o h _ => e b o h
theorem But.refl : But p H H := fun _ _ h _ => h
theorem But.trans (a : But p H H1) (b : But p H1 H2) : But p H H2 := fun c o h n => b c o (a c o h n) n
theorem But.set : But p H (upd H p o) := fun b u e n => by rw [upd_ne n]; exact e
theorem But.seq (e : But p H H') (h : SqL K H a xs) (n : a ≠ p) : SqL K H' a xs := by
  rcases h with (h | ⟨o, h⟩) | h
  · exact .inl (.inl (e _ _ h n))
  · exact .inl (.inr ⟨o, e _ _ h n⟩)
  · exact .inr h
theorem But.tu {ys : List V} (e : But p H H') (h : H p = some (.lst ys)) : Tu H H' := Tu.but h (fun z => z) e
theorem But.tuD {kvs : List (Key × V)} (e : But p H H') (h : H p = some (.dK kvs)) : Tu H H' := Tu.but h (fun z => z) e
/-- what was new ahead is no list changed since -/
theorem But.same (e : But p H1 H') (n : H p = none) (s : Same H H1) : Same H H' := fun b o h => e b o (s b o h) (ne_of_none h n)
end
/-! ### the purse -/
def Pur (H : Hp) (p : Addr) : Prop := ∃ a b : Int, H p = some (.lst [.int a, .int b]) ∧ 0 ≤ b ∧ b < 2 ^ 40
structure Go (p : Addr) (H H' : Hp) : Prop where
  keep : But p H H'
  tu : Tu H H'
  pur : Pur H' p
theorem Go.refl {p : Addr} {H : Hp} (h : Pur H p) : Go p H H := ⟨But.refl, Tu.refl H, h⟩
theorem Go.trans {p : Addr} {H H1 H2 : Hp} (a : Go p H H1) (b : Go p H1 H2) : Go p H H2 := ⟨a.keep.trans b.keep, a.tu.trans b.tu, b.pur⟩
theorem Pur.same {p : Addr} {H H' : Hp} (h : Pur H p) (e : Same H H') : Pur H' p := let ⟨a, b, q, r⟩ := h; ⟨a, b, e _ _ q, r⟩
theorem Go.same {p : Addr} {H H1 H2 : Hp} (a : Go p H H1) (e : Same H1 H2) : Go p H H2 := ⟨a.keep.trans (.of e), a.tu.trans (.of e), a.pur.same e⟩
theorem Go.of {p : Addr} {H H' : Hp} (h : Pur H p) (e : Same H H') : Go p H H' := (Go.refl h).same e
theorem Pur.ne {p q : Addr} {H : Hp} (h : Pur H p) (n : H q = none) : q ≠ p := by
  obtain ⟨a, b, e, _⟩ := h
  exact (ne_of_none e n).symm
/-! ### a def by its name -/
structure Df (P : Program) (w : World) (K : PySem.W.Frag) (mg : Str → Option Value) (base : Heap) (CX : CXT) (k : Nat) (x : Str) (ps : List Str) (sp : Sp) : Prop where
  ex : ∃ fd, FnG P w K mg base CX k (He.ga K x) fd ps sp ∧ Binds K fd ps []
  gl : mg x = some (.ref (He.ga K x))
  kp : PySem.W.keepIn K (.ref (He.ga K x)) = true
theorem pe_cl {X : Cx} {CX : CXT} {k : Nat} {x : Str} {ps : List Str} {sp : Sp} {E : XK} {e : Expr} {es : List Expr} {t : TA} {p pos : Pos} (D : Df X.prog X.w X.K X.mg X.base CX k x ps sp) (hr : RoomG k X.A) (hg : Gl X x) (hx : Passes CX X E)
    (ha : PA X (e :: es) t) (hdb : (x == ("__debug__" : Str)) = false := by decide) (he : starEach (e :: es) X.env = (false, eval e X.env) :: starEach es X.env := by rfl)
    (hpl : (backTo pos (starEach es X.env)).any (·.1) = false := by rfl) : PE X (.Call (.Name x p) (e :: es) [] pos) (tCall sp [] E t) := by
  obtain ⟨fd, F, b⟩ := D.ex
  exact pe_callG F hr hg D.gl D.kp b .nil hx ha hdb he hpl
end Fz
/-! ### readings, a step at a time: each is the reading's own word, unfolded once -/
namespace Fz
open PySem L2
section
variable {K : PySem.W.Frag} {σ : L2.St} {H : Hp} {Q : VK} {D : Ends} {ta tb tc te : TE} {t u : TS} {tt tu : TT} {v : V} {i j : Nat} {QB : Bool → Hp → Prop} {QA : List V → Hp → Prop} {tA tr : TA} {xs : List V} {a p : Addr}
theorem w_seq (h : t { D with nx := u D } σ H) : tSeq t u D σ H := h
theorem w_asg {g : TG} (h : te σ H fun x H1 => g x σ H1 D.nx) : tAsg te g D σ H := h
theorem w_name {N : L2.St → Hp → Prop} (h : N (σ.set i (some v)) H) : gName i v σ H N := h
theorem w_enx {N B C : L2.St → Hp → Prop} {R : VK} (h : N σ H) : Ends.nx ⟨N, R, B, C⟩ σ H := h
theorem w_ert {N B C : L2.St → Hp → Prop} {R : VK} (h : R v H) : Ends.rt ⟨N, R, B, C⟩ v H := h
theorem w_ebk {N B C : L2.St → Hp → Prop} {R : VK} (h : B σ H) : Ends.bk ⟨N, R, B, C⟩ σ H := h
theorem w_ect {N B C : L2.St → Hp → Prop} {R : VK} (h : C σ H) : Ends.ct ⟨N, R, B, C⟩ σ H := h
theorem w_ret (h : te σ H D.rt) : tRet te D σ H := h
theorem w_drop (h : te σ H fun _ H1 => D.nx σ H1) : tDrop te D σ H := h
theorem w_next (h : D.nx σ H) : tNext D σ H := h
theorem w_cont (h : D.ct σ H) : tCont D σ H := h
theorem w_ifs (h : tt σ H fun b H1 => if b = true then t D σ H1 else u D σ H1) : tIfS tt t u D σ H := h
theorem w_var (e : σ[i]? = some (some v)) (h : Q v H) : tVar i σ H Q := ⟨v, e, h⟩
theorem w_c (h : Q v H) : tC v σ H Q := h
theorem w_op {r : R2} (h : ta σ H fun x H1 => tb σ H1 fun y H2 => r x y H2 Q) : tOp r ta tb σ H Q := h
theorem w_un {r : V → Hp → VK → Prop} (h : ta σ H fun x H1 => r x H1 Q) : tUn r ta σ H Q := h
theorem w_test (h : te σ H fun x H' => ∃ k, x = .bl k ∧ QB k H') : tTest te σ H QB := h
theorem w_tb (h : te σ H fun x H' => ∃ k, x = .bl k ∧ QB k H') : tB te σ H QB := h
theorem w_bl {b : Bool} {R : Bool → Prop} (h : R b) : ∃ k, V.bl b = .bl k ∧ R k := ⟨b, rfl, h⟩
theorem w_and (h : tt σ H fun c H1 => if c = true then tu σ H1 QB else QB false H1) : tAnd tt tu σ H QB := h
theorem w_or (h : tt σ H fun c H1 => if c = true then QB true H1 else tu σ H1 QB) : tOr tt tu σ H QB := h
theorem w_not (h : tt σ H fun c H1 => QB (!c) H1) : tNot tt σ H QB := h
theorem w_andV (h : ta σ H fun x H1 => ∃ c, x = .bl c ∧ if c = true then tb σ H1 Q else Q (.bl false) H1) : tAndV ta tb σ H Q := h
theorem w_orV (h : ta σ H fun x H1 => ∃ c, x = .bl c ∧ if c = true then Q (.bl true) H1 else tb σ H1 Q) : tOrV ta tb σ H Q := h
theorem w_notV (h : ta σ H fun x H1 => ∃ c, x = .bl c ∧ Q (.bl (!c)) H1) : tNotV ta σ H Q := h
theorem w_ifE (h : tt σ H fun c H1 => if c = true then ta σ H1 Q else tb σ H1 Q) : tIf tt ta tb σ H Q := h
theorem w_chain {r r' : R2} (h : ta σ H fun x H1 => tb σ H1 fun y H2 => r x y H2 fun z H3 => ∃ k, z = .bl k ∧ (if k = true then tc σ H3 fun w' H4 => r' y w' H4 Q else Q (.bl false) H3)) : tChain r r' ta tb tc σ H Q := h
theorem w_nil (h : QA [] H) : tNil σ H QA := h
theorem w_cons (h : ta σ H fun x H1 => tr σ H1 fun xs H2 => QA (x :: xs) H2) : tCons ta tr σ H QA := h
theorem w_call {sp : Sp} {dvs : List V} {E : XK} (h : tA σ H fun vs H1 => sp (vs ++ dvs) H1 Q E) : tCall sp dvs E tA σ H Q := h
theorem w_cb {r : List V → Hp → VK → Prop} (h : tA σ H fun vs H1 => r vs H1 Q) : tCB r tA σ H Q := h
theorem w_parS {tA : TA} (h : tA σ H fun vs H1 => ∃ v w, vs = [v, w] ∧ D.nx ((σ.set i (some v)).set j (some w)) H1) : tPar i j tA D σ H := h
theorem w_par3S {l : Nat} {tA : TA} (h : tA σ H fun vs H1 => ∃ u v w, vs = [u, v, w] ∧ D.nx (((σ.set i (some u)).set j (some v)).set l (some w)) H1) : tPar3 i j l tA D σ H := h
theorem w_aug {x : V} {ti : TIp} (e : σ[i]? = some (some x)) (h : te σ H fun y H1 => ti x y H1 fun z H2 => D.nx (σ.set i (some z)) H2) : tAug i te ti D σ H := ⟨x, e, h⟩
theorem w_ipI {f : Int → Int → Int} {m n : Int} (h : Q (.int (f m n)) H) : ipI f (.int m) (.int n) H Q := ⟨m, n, rfl, rfl, h⟩
theorem w_I0 {g : Int → Int → V} {m n : Int} (h : Q (g m n) H) : rI0 g (.int m) (.int n) H Q := ⟨m, n, rfl, rfl, h⟩
theorem w_I {C : Int → Int → Prop} {g : Int → Int → V} {m n : Int} (c : C m n) (h : Q (g m n) H) : rI C g (.int m) (.int n) H Q := ⟨m, n, rfl, rfl, c, h⟩
theorem w_U {g : Int → V} {n : Int} (h : Q (g n) H) : rU g (.int n) H Q := ⟨n, rfl, h⟩
theorem w_eqI {m n : Int} (h : Q (.bl (decide (m = n))) H) : rEq (.int m) (.int n) H Q := ⟨rfl, by
  have e : decide (V.int m = V.int n) = decide (m = n) := decide_eq_decide.mpr ⟨fun z => V.int.inj z, fun z => congrArg V.int z⟩
  rw [e]; exact h⟩
theorem w_neI {m n : Int} (h : Q (.bl (!decide (m = n))) H) : rNe (.int m) (.int n) H Q := ⟨rfl, by
  have e : decide (V.int m = V.int n) = decide (m = n) := decide_eq_decide.mpr ⟨fun z => V.int.inj z, fun z => congrArg V.int z⟩
  rw [e]; exact h⟩
theorem w_eqS {m n : Str} (h : Q (.bl (decide (m = n))) H) : rEq (.str m) (.str n) H Q := ⟨rfl, by
  have e : decide (V.str m = V.str n) = decide (m = n) := decide_eq_decide.mpr ⟨fun z => V.str.inj z, fun z => congrArg V.str z⟩
  rw [e]; exact h⟩
theorem w_neS {m n : Str} (h : Q (.bl (!decide (m = n))) H) : rNe (.str m) (.str n) H Q := ⟨rfl, by
  have e : decide (V.str m = V.str n) = decide (m = n) := decide_eq_decide.mpr ⟨fun z => V.str.inj z, fun z => congrArg V.str z⟩
  rw [e]; exact h⟩
theorem w_eqB {m n : Bool} (h : Q (.bl (decide (m = n))) H) : rEq (.bl m) (.bl n) H Q := ⟨rfl, by
  have e : decide (V.bl m = V.bl n) = decide (m = n) := decide_eq_decide.mpr ⟨fun z => V.bl.inj z, fun z => congrArg V.bl z⟩
  rw [e]; exact h⟩
theorem w_gtup {n : Nat} {ts : TGs} {N : L2.St → Hp → Prop} (hs : SqT K H a xs) (hl : xs.length = n) (h : ts xs σ H N) : gTup K n ts (.ref a) σ H N := ⟨a, xs, rfl, hs, hl, h⟩
theorem w_gnil {N : L2.St → Hp → Prop} (h : N σ H) : gNil [] σ H N := ⟨rfl, h⟩
theorem w_gcons {g : TG} {gs : TGs} {N : L2.St → Hp → Prop} (h : g v σ H fun σ' H' => gs xs σ' H' N) : gCons g gs (v :: xs) σ H N := ⟨v, xs, rfl, h⟩
theorem w_gsub {to ti : TE} {ts : TSet} {N : L2.St → Hp → Prop} (h : to σ H fun o H1 => ti σ H1 fun i H2 => ts o i v H2 fun H3 => N σ H3) : gSub to ti ts v σ H N := h
theorem w_ixL {k : Int} (hs : SqL K H p xs) (ha : atI xs k = some v) (h : Q v H) : rIxL K (.ref p) (.int k) H Q := ⟨p, xs, k, v, rfl, rfl, hs, ha, h⟩
theorem w_ixT {k : Int} (hs : SqT K H p xs) (ha : atI xs k = some v) (h : Q v H) : rIxT K (.ref p) (.int k) H Q := ⟨p, xs, k, v, rfl, rfl, hs, ha, h⟩
theorem w_sl {r : V → Option Int → Option Int → Hp → VK → Prop} {tl th : TO} (h : te σ H fun x H1 => tl σ H1 fun l H2 => th σ H2 fun u H3 => r x l u H3 Q) : L2.tSl r te tl th σ H Q := h
theorem w_part {QO : Option Int → Hp → Prop} (h : te σ H fun x H1 => ∃ i, x = .int i ∧ QO (some i) H1) : tPart te σ H QO := h
theorem w_int {n : Int} {R : Int → Prop} (h : R n) : ∃ i, V.int n = .int i ∧ R i := ⟨n, rfl, h⟩
theorem w_nopart {QO : Option Int → Hp → Prop} (h : QO none H) : tNoPart σ H QO := h
theorem w_bm {T : String} {r : V → List V → Hp → VK → Prop} {to : TE} (h : to σ H fun x H1 => tyV K T x H1 ∧ tA σ H1 fun xs H2 => r x xs H2 Q) : tBM K T r to tA σ H Q := h
theorem w_tyL {Z : Prop} (hs : SqL K H p xs) (h : Z) : tyV K "list" (.ref p) H ∧ Z := ⟨.inl ⟨rfl, _, hs⟩, h⟩
theorem w_sum {ns : List Int} (hs : SqL K H p (ns.map V.int)) (h : Q (.int ns.sum) H) : rSum K [.ref p] H Q := ⟨p, ns, rfl, hs, h⟩
theorem w_all {bs : List Bool} (hs : SqL K H p (bs.map V.bl)) (h : Q (.bl (bs.all id)) H) : rAll K [.ref p] H Q := ⟨p, bs, rfl, hs, h⟩
theorem w_any {bs : List Bool} (hs : SqL K H p (bs.map V.bl)) (h : Q (.bl (bs.any id)) H) : rAny K [.ref p] H Q := ⟨p, bs, rfl, hs, h⟩

theorem w_isi {x : V} {ty T : String} {b : Bool} (hx : TyX K H x (.type ty)) (hk : kitB ty T = some b) (h : Q (.bl b) H) : rIsi K [x, .ty T] H Q := ⟨x, .ty T, .type ty, .type T, b, rfl, .ty T, hx, kit_ty hk, h⟩
theorem bt_isinstance : bootBuiltins "isinstance" = some (.builtin "isinstance") := by decide +kernel
theorem bt_len : bootBuiltins "len" = some (.builtin "len") := by decide +kernel
theorem bt_all : bootBuiltins "all" = some (.builtin "all") := by decide +kernel
theorem bt_any : bootBuiltins "any" = some (.builtin "any") := by decide +kernel
theorem bt_sum : bootBuiltins "sum" = some (.builtin "sum") := by decide +kernel
theorem bt_max : bootBuiltins "max" = some (.builtin "max") := by decide +kernel
theorem bt_min : bootBuiltins "min" = some (.builtin "min") := by decide +kernel
theorem bt_repr : bootBuiltins "repr" = some (.builtin "repr") := by decide +kernel
theorem bt_sorted : bootBuiltins "sorted" = some (.builtin "sorted") := by decide +kernel
theorem bt_abs : bootBuiltins "abs" = some (.builtin "abs") := by decide +kernel
theorem bt_int : bootBuiltins "int" = some (.type "int") := by decide +kernel
theorem bt_str : bootBuiltins "str" = some (.type "str") := by decide +kernel
theorem bt_bool : bootBuiltins "bool" = some (.type "bool") := by decide +kernel
theorem bt_tuple : bootBuiltins "tuple" = some (.type "tuple") := by decide +kernel
theorem bt_list : bootBuiltins "list" = some (.type "list") := by decide +kernel
theorem bt_dict : bootBuiltins "dict" = some (.type "dict") := by decide +kernel
theorem bt_set : bootBuiltins "set" = some (.type "set") := by decide +kernel
theorem bt_ValueError : bootBuiltins "ValueError" = some (.type "ValueError") := by decide +kernel
theorem bt_LookupError : bootBuiltins "LookupError" = some (.type "LookupError") := by decide +kernel
theorem kit_int_int : kitB "int" "int" = some true := by decide +kernel
theorem kit_int_bool : kitB "int" "bool" = some false := by decide +kernel
theorem kit_int_str : kitB "int" "str" = some false := by decide +kernel
theorem kit_int_tuple : kitB "int" "tuple" = some false := by decide +kernel
theorem kit_int_list : kitB "int" "list" = some false := by decide +kernel
theorem kit_int_dict : kitB "int" "dict" = some false := by decide +kernel
theorem kit_bool_int : kitB "bool" "int" = some true := by decide +kernel
theorem kit_bool_bool : kitB "bool" "bool" = some true := by decide +kernel
theorem kit_bool_str : kitB "bool" "str" = some false := by decide +kernel
theorem kit_bool_tuple : kitB "bool" "tuple" = some false := by decide +kernel
theorem kit_bool_list : kitB "bool" "list" = some false := by decide +kernel
theorem kit_bool_dict : kitB "bool" "dict" = some false := by decide +kernel
theorem kit_str_int : kitB "str" "int" = some false := by decide +kernel
theorem kit_str_bool : kitB "str" "bool" = some false := by decide +kernel
theorem kit_str_str : kitB "str" "str" = some true := by decide +kernel
theorem kit_str_tuple : kitB "str" "tuple" = some false := by decide +kernel
theorem kit_str_list : kitB "str" "list" = some false := by decide +kernel
theorem kit_str_dict : kitB "str" "dict" = some false := by decide +kernel
theorem kit_tuple_int : kitB "tuple" "int" = some false := by decide +kernel
theorem kit_tuple_bool : kitB "tuple" "bool" = some false := by decide +kernel
theorem kit_tuple_str : kitB "tuple" "str" = some false := by decide +kernel
theorem kit_tuple_tuple : kitB "tuple" "tuple" = some true := by decide +kernel
theorem kit_tuple_list : kitB "tuple" "list" = some false := by decide +kernel
theorem kit_tuple_dict : kitB "tuple" "dict" = some false := by decide +kernel
theorem kit_list_int : kitB "list" "int" = some false := by decide +kernel
theorem kit_list_bool : kitB "list" "bool" = some false := by decide +kernel
theorem kit_list_str : kitB "list" "str" = some false := by decide +kernel
theorem kit_list_tuple : kitB "list" "tuple" = some false := by decide +kernel
theorem kit_list_list : kitB "list" "list" = some true := by decide +kernel
theorem kit_list_dict : kitB "list" "dict" = some false := by decide +kernel
theorem kit_dict_int : kitB "dict" "int" = some false := by decide +kernel
theorem kit_dict_bool : kitB "dict" "bool" = some false := by decide +kernel
theorem kit_dict_str : kitB "dict" "str" = some false := by decide +kernel
theorem kit_dict_tuple : kitB "dict" "tuple" = some false := by decide +kernel
theorem kit_dict_list : kitB "dict" "list" = some false := by decide +kernel
theorem kit_dict_dict : kitB "dict" "dict" = some true := by decide +kernel
theorem kit_NoneType_int : kitB "NoneType" "int" = some false := by decide +kernel
theorem kit_NoneType_bool : kitB "NoneType" "bool" = some false := by decide +kernel
theorem kit_NoneType_str : kitB "NoneType" "str" = some false := by decide +kernel
theorem kit_NoneType_tuple : kitB "NoneType" "tuple" = some false := by decide +kernel
theorem kit_NoneType_list : kitB "NoneType" "list" = some false := by decide +kernel
theorem kit_NoneType_dict : kitB "NoneType" "dict" = some false := by decide +kernel
theorem ty_tup {K : PySem.W.Frag} {H : Hp} {p : Addr} {xs : List V} (h : SqT K H p xs) : TyX K H (.ref p) (.type "tuple") := by
  rcases h with (h | ⟨o, h⟩) | ⟨o, _, _, h, c, _⟩
  · exact .base (.tup h)
  · exact .fTuple h
  · exact .kTuple h c
theorem ty_lst {K : PySem.W.Frag} {H : Hp} {p : Addr} {xs : List V} (h : SqL K H p xs) : TyX K H (.ref p) (.type "list") := by
  rcases h with (h | ⟨o, h⟩) | ⟨o, _, _, h, c, _⟩
  · exact .base (.lst h)
  · exact .base (.frz h)
  · exact .kList h c
theorem w_nT {A B : Prop} (h : B) : if (!true) = true then A else B := h
theorem w_nF {A B : Prop} (h : A) : if (!false) = true then A else B := h
theorem w_sz {Z : Prop} (e : Nat.ble xs.length sizeLine = true) (h : Z) : xs.length ≤ sizeLine ∧ Z := ⟨Nat.le_of_ble_eq_true e, h⟩
theorem w_neD {x y : V} {d e : PyData} (h1 : Dp K H x d) (h2 : Dp K H y e) (s1 : SeqAt.shaped d = true) (s2 : SeqAt.shaped e = true) (h : Q (.bl (!PyData.eqv d e)) H) : rNeD K x y H Q := ⟨d, e, h1, h2, s1, s2, h⟩
theorem w_eqD {x y : V} {d e : PyData} (h1 : Dp K H x d) (h2 : Dp K H y e) (s1 : SeqAt.shaped d = true) (s2 : SeqAt.shaped e = true) (h : Q (.bl (PyData.eqv d e)) H) : rEqD K x y H Q := ⟨d, e, h1, h2, s1, s2, h⟩
theorem w_rng1 {R : It → Hp → Prop} (h : tA σ H fun vs H1 => ∃ j : Int, vs = [.int j] ∧ -(2 ^ 62) ≤ j ∧ j < 2 ^ 62 ∧ R (Itr 0 j.toNat) H1) : iRng1 tA σ H R := h
theorem w_rng2 {R : It → Hp → Prop} (h : tA σ H fun vs H1 => ∃ i j : Int, vs = [.int i, .int j] ∧ (-(2 ^ 62) ≤ i ∧ i < 2 ^ 62 ∧ -(2 ^ 62) ≤ j ∧ j < 2 ^ 62) ∧ R (Itr i (j - i).toNat) H1) : iRng2 tA σ H R := h
theorem w_ilist {R : It → Hp → Prop} (h : te σ H fun x H1 => ∃ a, x = .ref a ∧ (∃ xs, SqL K H1 a xs) ∧ R (Itl K a) H1) : iList K te σ H R := h
theorem w_itup {R : It → Hp → Prop} (h : te σ H fun x H1 => ∃ a, x = .ref a ∧ (∃ xs, SqT K H1 a xs) ∧ R (Itt K a) H1) : iTup K te σ H R := h
theorem w_for {wi : TI} {g : TG} {tb : TS} (h : wi σ H fun J H1 => ∃ W : Nat → Nat → L2.St → Hp → Prop, (∃ m, W 0 m σ H1) ∧ ∀ i m σ H, W i m σ H →
  (J.stop i H ∧ D.nx σ H) ∨ (J.go i H ∧ ∃ N : L2.St → Hp → Prop, (∀ σ' H', N σ' H' → ∃ m', m' < m ∧ W (i + 1) m' σ' H') ∧ ∀ x H', J.yld i H x H' → g x σ H' fun σ2 H2 => tb { D with nx := N, ct := N, bk := D.nx } σ2 H2)) : tFor wi g tb D σ H := h
end
end Fz

/-! ### readings by names, heaps as letters -/
namespace Fz
open PySem PySem.Spec PyProof.Rows L2
abbrev NewQ (H : Hp) (o : HO) (Q : VK) : Prop := ∀ p H2, H p = none → Same H H2 → H2 p = some o → Q (.ref p) H2
theorem NewQ.at {H : Hp} {o : HO} {Q : VK} (h : NewQ H o Q) (p : Addr) (n : H p = none) : Q (.ref p) (upd H p o) := h p _ n (new_same n) upd_same
def tTupN (t : TA) : TE := fun σ H Q => t σ H fun xs H1 => xs.length ≤ sizeLine ∧ NewQ H1 (.tup xs) Q
def tLstN (t : TA) : TE := fun σ H Q => t σ H fun xs H1 => xs.length ≤ sizeLine ∧ NewQ H1 (.lst xs) Q
def rCatN : R2 := fun x y H Q => ∃ l b xs zs, x = .ref l ∧ y = .ref b ∧ H l = some (.lst xs) ∧ H b = some (.lst zs) ∧ xs.length + zs.length ≤ sizeLine ∧ NewQ H (.lst (xs ++ zs)) Q
def rSlLN (K : PySem.W.Frag) : V → Option Int → Option Int → Hp → VK → Prop := fun x lo hi H Q => ∃ a xs, x = .ref a ∧ SqL K H a xs ∧ NewQ H (.lst (cutV xs lo hi)) Q
def rAppN : V → List V → Hp → VK → Prop := fun x vs H Q => ∃ l xs y, x = .ref l ∧ vs = [y] ∧ H l = some (.lst xs) ∧ xs.length < sizeLine ∧ ∀ H2, But l H H2 → H2 l = some (.lst (xs ++ [y])) → Q .non H2
def rExtN : V → List V → Hp → VK → Prop := fun x vs H Q => ∃ l b xs zs, x = .ref l ∧ vs = [.ref b] ∧ H l = some (.lst xs) ∧ H b = some (.lst zs) ∧ xs.length + zs.length ≤ sizeLine ∧ ∀ H2, But l H H2 → H2 l = some (.lst (xs ++ zs)) → Q .non H2
def rSetN : TSet := fun o i v H Q => ∃ p xs k j, o = .ref p ∧ i = .int k ∧ H p = some (.lst xs) ∧ ixN xs.length k = some j ∧ ∀ H2, But p H H2 → H2 p = some (.lst (xs.set j v)) → Q H2
def cTup (K : PySem.W.Frag) : List V → Hp → VK → Prop := fun vs H Q => ∃ p ys, vs = [.ref p] ∧ SqL K H p ys ∧ NewQ H (.tup ys) Q
def cTupT (K : PySem.W.Frag) : List V → Hp → VK → Prop := fun vs H Q => ∃ p ys, vs = [.ref p] ∧ SqT K H p ys ∧ Q (.ref p) H
def cLst (K : PySem.W.Frag) : List V → Hp → VK → Prop := fun vs H Q => ∃ p ys, vs = [.ref p] ∧ (SqL K H p ys ∨ SqT K H p ys) ∧ NewQ H (.lst ys) Q
def cLen (K : PySem.W.Frag) : List V → Hp → VK → Prop := fun vs H Q => ∃ x n, vs = [x] ∧ LenV K x H n ∧ Q (.int n) H
def cMax : List V → Hp → VK → Prop := fun vs H Q => ∃ i j, vs = [.int i, .int j] ∧ Q (.int (if j > i then j else i)) H
def cMin : List V → Hp → VK → Prop := fun vs H Q => ∃ i j, vs = [.int i, .int j] ∧ Q (.int (if j < i then j else i)) H
def rIsN' : R2 := fun x y H Q => y = .non ∧ Q (.bl (decide (x = .non))) H
def rNotN' : R2 := fun x y H Q => y = .non ∧ Q (.bl (!decide (x = .non))) H
def rIsB' : R2 := fun x y H Q => ∃ a b, x = .bl a ∧ y = .bl b ∧ Q (.bl (decide (a = b))) H
def rIsnB' : R2 := fun x y H Q => ∃ a b, x = .bl a ∧ y = .bl b ∧ Q (.bl (!decide (a = b))) H
def rAddS' : R2 := fun x y H Q => ∃ i j, x = .str i ∧ y = .str j ∧ i.length + j.length ≤ sizeLine ∧ Q (.str (i ++ j)) H
section
variable {X : Cx} {es : List Expr} {t : TA} {pos : Pos}
theorem pe_tupN {x1} (h : PA X es t) : PE X (.Tuple es x1 pos) (tTupN t) := by
  refine ⟨fun pins s σ H Q I hq => ?_⟩
  refine wpAny_Tuple_spliced (thn (h.run pos pins s σ H _ I hq) fun us s1 ⟨xs, H1, I1, r, z, q⟩ => ⟨by rw [← r.length]; exact z, ?_⟩)
  have hf : H1 s1.heap.objs.size = none := I1.hok.fresh (Nat.le_refl _)
  refine ⟨.ref s1.heap.objs.size, upd H1 s1.heap.objs.size (.tup xs), I1.laid (t' := s1.toks) (fun b u e => Heap.get?_push_of_some _ e) (Nat.le_refl _) ?_, rfl, q.at _ hf⟩
  exact ⟨z, us, r, ⟨_, Heap.get?_push_size _ rfl, rfl, _, rfl⟩⟩
theorem pe_lstN (h : PA X es t) : PE X (.List es pos) (tLstN t) := by
  refine ⟨fun pins s σ H Q I hq => ?_⟩
  refine wpAny_List_spliced (thn (h.run pos pins s σ H _ I hq) fun us s1 ⟨xs, H1, I1, r, z, q⟩ => ⟨by rw [← r.length]; exact z, ?_⟩)
  have hf : H1 s1.heap.objs.size = none := I1.hok.fresh (Nat.le_refl _)
  refine ⟨.ref s1.heap.objs.size, upd H1 s1.heap.objs.size (.lst xs), I1.laid (t' := s1.toks) (fun b u e => Heap.get?_push_of_some _ e) (Nat.le_refl _) ?_, rfl, q.at _ hf⟩
  exact ⟨z, us, 0, r, Heap.get?_push_size _ rfl⟩
theorem OpR.le {f : Value → Value → Sem Value} {r r' : R2} (h : OpR X f r) (m : ∀ x y H Q, r' x y H Q → r x y H Q) : OpR X f r' := fun pins s σ H x y v u Q I rx ry q => h pins s σ H x y v u Q I rx ry (m _ _ _ _ q)
theorem CallR.le {f : Value} {r r' : List V → Hp → VK → Prop} (h : CallR X f r) (m : ∀ vs H Q, r' vs H Q → r vs H Q) : CallR X f r' := fun pins s σ H xs us Q I rx q => h pins s σ H xs us Q I rx (m _ _ _ q)
theorem op_catN : OpR X (binaryOp .Add) rCatN := OpR.le op_cat fun _ _ _ _ ⟨l, b, xs, zs, e1, e2, h1, h2, hz, q⟩ => ⟨l, b, xs, zs, e1, e2, h1, h2, hz, fun p n => q.at p n⟩
theorem sl_listN : SlR X (rSlLN X.K) := fun pins s σ H x v vl vu lo hi sl Q I rx hs pl pu ⟨a, xs, e, h, q⟩ => sl_list pins s σ H x v vl vu lo hi sl Q I rx hs pl pu ⟨a, xs, e, h, fun p n => q.at p n⟩
theorem mt_appN : MtR X "list.append" rAppN := fun pins s σ H x xs v us Q I rx rv ⟨l, ys, y, e1, e2, h, z, q⟩ => mt_append pins s σ H x xs v us Q I rx rv ⟨l, ys, y, e1, e2, h, z, q _ But.set upd_same⟩
theorem mt_extN : MtR X "list.extend" rExtN := fun pins s σ H x xs v us Q I rx rv ⟨l, b, ys, zs, e1, e2, h, h2, z, q⟩ => mt_extend pins s σ H x xs v us Q I rx rv ⟨l, b, ys, zs, e1, e2, h, h2, z, q _ But.set upd_same⟩
theorem set_listN : PSet X rSetN := fun pins s σ H o i v ov iv u Q I r1 r2 r3 ⟨p, xs, k, j, e1, e2, h, hj, q⟩ => set_list pins s σ H o i v ov iv u Q I r1 r2 r3 ⟨p, xs, k, j, e1, e2, h, hj, q _ But.set upd_same⟩
theorem call_tupN : CallR X (.type "tuple") (cTup X.K) := CallR.le call_tuple_of fun _ _ _ ⟨p, ys, e, h, q⟩ => ⟨p, ys, e, .inl ⟨h, fun l n => q.at l n⟩⟩
theorem call_tupT' : CallR X (.type "tuple") (cTupT X.K) := CallR.le call_tuple_of fun _ _ _ ⟨p, ys, e, h, q⟩ => ⟨p, ys, e, .inr ⟨h, q⟩⟩
theorem call_lstN : CallR X (.type "list") (cLst X.K) := CallR.le call_list_of fun _ _ _ ⟨p, ys, e, h, q⟩ => ⟨p, ys, e, h, fun l n => q.at l n⟩
theorem call_lenN : CallR X (.builtin "len") (cLen X.K) := call_len
theorem call_maxN (hc : X.calm = true) : CallR X (.builtin "max") cMax := call_max2 hc
theorem call_minN (hc : X.calm = true) : CallR X (.builtin "min") cMin := call_min2 hc
theorem op_isNN : OpR X (compareOp .Is) rIsN' := op_isN
theorem op_notNN : OpR X (compareOp .IsNot) rNotN' := op_notN
theorem op_isBN : OpR X (compareOp .Is) rIsB' := op_is_bl
theorem op_isnBN : OpR X (compareOp .IsNot) rIsnB' := op_isnot_bl
theorem op_addSN : OpR X (binaryOp .Add) rAddS' := op_add_str
end
section
variable {K : PySem.W.Frag} {σ : L2.St} {H : Hp} {Q : VK} {D : Ends} {v x y : V} {i j : Nat} {tA : TA} {xs zs : List V} {a b p l : Addr}
theorem w_tup (h : tA σ H fun xs H1 => xs.length ≤ sizeLine ∧ NewQ H1 (.tup xs) Q) : tTupN tA σ H Q := h
theorem w_lst (h : tA σ H fun xs H1 => xs.length ≤ sizeLine ∧ NewQ H1 (.lst xs) Q) : tLstN tA σ H Q := h
theorem w_par {R : V → V → Prop} (h : R x y) : ∃ v w, [x, y] = [v, w] ∧ R v w := ⟨x, y, rfl, h⟩
theorem w_par3 {z : V} {R : V → V → V → Prop} (h : R x y z) : ∃ u v w, [x, y, z] = [u, v, w] ∧ R u v w := ⟨x, y, z, rfl, h⟩
theorem w_slL {lo hi : Option Int} (hs : SqL K H p xs) (h : NewQ H (.lst (cutV xs lo hi)) Q) : rSlLN K (.ref p) lo hi H Q := ⟨p, xs, rfl, hs, h⟩
theorem w_cat (h1 : H l = some (.lst xs)) (h2 : H b = some (.lst zs)) (hl : xs.length + zs.length ≤ sizeLine) (h : NewQ H (.lst (xs ++ zs)) Q) : rCatN (.ref l) (.ref b) H Q := ⟨l, b, xs, zs, rfl, rfl, h1, h2, hl, h⟩
theorem w_append (hp : H p = some (.lst xs)) (hl : xs.length < sizeLine) (h : ∀ H2, But p H H2 → H2 p = some (.lst (xs ++ [v])) → Q .non H2) : rAppN (.ref p) [v] H Q := ⟨p, xs, v, rfl, rfl, hp, hl, h⟩
theorem w_extend (hp : H p = some (.lst xs)) (hb : H b = some (.lst zs)) (hl : xs.length + zs.length ≤ sizeLine) (h : ∀ H2, But p H H2 → H2 p = some (.lst (xs ++ zs)) → Q .non H2) : rExtN (.ref p) [.ref b] H Q := ⟨p, b, xs, zs, rfl, rfl, hp, hb, hl, h⟩
theorem w_setL {k : Int} {j : Nat} {N : Hp → Prop} (hp : H p = some (.lst xs)) (hj : ixN xs.length k = some j) (h : ∀ H2, But p H H2 → H2 p = some (.lst (xs.set j v)) → N H2) : rSetN (.ref p) (.int k) v H N := ⟨p, xs, k, j, rfl, rfl, hp, hj, h⟩
theorem w_tuple (hs : SqL K H p xs) (h : NewQ H (.tup xs) Q) : cTup K [.ref p] H Q := ⟨p, xs, rfl, hs, h⟩
theorem w_tupleT (hs : SqT K H p xs) (h : Q (.ref p) H) : cTupT K [.ref p] H Q := ⟨p, xs, rfl, hs, h⟩
theorem w_listT (hs : SqT K H p xs) (h : NewQ H (.lst xs) Q) : cLst K [.ref p] H Q := ⟨p, xs, rfl, .inr hs, h⟩
theorem w_listL (hs : SqL K H p xs) (h : NewQ H (.lst xs) Q) : cLst K [.ref p] H Q := ⟨p, xs, rfl, .inl hs, h⟩
theorem w_lenL (hs : SqL K H p xs) (h : Q (.int xs.length) H) : cLen K [.ref p] H Q := ⟨_, _, rfl, .inl ⟨_, hs, rfl⟩, h⟩
theorem w_lenT (hs : SqT K H p xs) (h : Q (.int xs.length) H) : cLen K [.ref p] H Q := ⟨_, _, rfl, .inr ⟨_, hs, rfl⟩, h⟩
theorem w_lenS {z : Str} (hz : z.length ≤ sizeLine) (h : Q (.int z.length) H) : cLen K [.str z] H Q := ⟨_, _, rfl, ⟨hz, rfl⟩, h⟩
theorem w_max {m n : Int} (h : Q (.int (if n > m then n else m)) H) : cMax [.int m, .int n] H Q := ⟨m, n, rfl, h⟩
theorem w_min {m n : Int} (h : Q (.int (if n < m then n else m)) H) : cMin [.int m, .int n] H Q := ⟨m, n, rfl, h⟩
theorem w_isN (h : Q (.bl (decide (v = .non))) H) : rIsN' v .non H Q := ⟨rfl, h⟩
theorem w_notN (h : Q (.bl (!decide (v = .non))) H) : rNotN' v .non H Q := ⟨rfl, h⟩
theorem w_isB {a b : Bool} (h : Q (.bl (decide (a = b))) H) : rIsB' (.bl a) (.bl b) H Q := ⟨a, b, rfl, rfl, h⟩
theorem w_isnB {a b : Bool} (h : Q (.bl (!decide (a = b))) H) : rIsnB' (.bl a) (.bl b) H Q := ⟨a, b, rfl, rfl, h⟩
theorem w_addS {a b : Str} (hz : a.length + b.length ≤ sizeLine) (h : Q (.str (a ++ b)) H) : rAddS' (.str a) (.str b) H Q := ⟨a, b, rfl, rfl, hz, h⟩
end
end Fz
/-! ### the rules with the written part named -/
namespace Fz
open PySem PySem.Spec PyProof.Rows L2
section
variable {X : Cx} {K : PySem.W.Frag} (e : X.K = K)
include e
theorem k_len : CallR X (.builtin "len") (cLen K) := e ▸ call_lenN
theorem k_isi : CallR X (.builtin "isinstance") (rIsi K) := e ▸ call_isi
theorem k_isiT : CallR X (.builtin "isinstance") (rIsiT K) := e ▸ call_isiT
theorem k_all (hc : X.calm = true) : CallR X (.builtin "all") (rAll K) := e ▸ cr_all hc
theorem k_any (hc : X.calm = true) : CallR X (.builtin "any") (rAny K) := e ▸ cr_any hc
theorem k_sum (hc : X.calm = true) : CallR X (.builtin "sum") (rSum K) := e ▸ cr_sum hc
theorem k_tuple : CallR X (.type "tuple") (cTup K) := e ▸ call_tupN
theorem k_tupleT : CallR X (.type "tuple") (cTupT K) := e ▸ call_tupT'
theorem k_list : CallR X (.type "list") (cLst K) := e ▸ call_lstN
theorem k_ixL : IxR X (rIxL K) := e ▸ ix_list
theorem k_ixT : IxR X (rIxT K) := e ▸ ix_tup
theorem k_slL : SlR X (rSlLN K) := e ▸ sl_listN
theorem k_slT : SlR X (rSlA K) := e ▸ sl_tupA
theorem k_catT : OpR X (binaryOp .Add) (rCatA K) := e ▸ op_catA
theorem k_eqD (hu : X.A.units + 64 < cLine) : OpR X (compareOp .Eq) (rEqD K) := e ▸ op_eqD hu
theorem k_neD (hu : X.A.units + 64 < cLine) : OpR X (compareOp .NotEq) (rNeD K) := e ▸ op_neD hu
theorem k_in : OpR X (compareOp .In) (rIn K false) := e ▸ op_in_seq
theorem k_notIn : OpR X (compareOp .NotIn) (rIn K true) := e ▸ op_notIn_seq
theorem k_ilist {tg l : Expr} {tl : TE} (hl : PE X l tl) : PI X tg l (iList K tl) := e ▸ pi_list hl
theorem k_itup {tg l : Expr} {tl : TE} (hl : PE X l tl) : PI X tg l (iTup K tl) := e ▸ pi_tup hl
theorem k_gtup {es : List Expr} {k : Nat} {t : TGs} {n : Nat} {pos : Pos} (hc : X.calm = true) (h : PGs X es t)
    (hn : (assignEach es X.env).length = n := by rfl) (hst : (assignEach es X.env).findIdx? (·.1) = none := by rfl) : PG X (.Tuple es k pos) (gTup K n t) := e ▸ pg_tup hc h hn hst
theorem k_bm {T id : String} {name : Str} {o ee : Expr} {es : List Expr} {apos cpos : Pos} {r : V → List V → Hp → VK → Prop} {to : TE} {t : TA} (pa : PlainAttrs T) (slot : Slot T name id) (hty : typeOf (.builtin id) = pure (.type "method_descriptor")) (hm : MtR X id r) (ho : PE X o to) (ha : PA X (ee :: es) t)
    (hbase : attributeBase o name X.env (eval o X.env) = eval o X.env := by rfl)
    (hfew : ((backTo cpos (starEach (ee :: es) X.env)).all (fun x => !x.1) && (backToKw cpos (keywordEach [] X.env)).all (fun x => x.1.isSome)
      && decide ((ee :: es).length + ([] : List Keyword).length + (if ([] : List Keyword).isEmpty then 0 else 1) < 30)) = true := by rfl)
    (hline : (apos.endLine == cpos.line) = true := by rfl) (hs : starEach (ee :: es) X.env = (false, eval ee X.env) :: starEach es X.env := by rfl) (hplain : (backTo cpos (starEach es X.env)).any (·.1) = false := by rfl) :
    PE X (.Call (.Attribute o name apos) (ee :: es) [] cpos) (tBM K T r to t) := e ▸ pe_bm pa slot hty hm ho ha hbase hfew hline hs hplain
end
end Fz
/-! ### comprehensions: what each element is, of which every heap that goes on tells the same -/
namespace Fz
open PySem L2
/-- T holds of a value as long as the tuples stay -/
def Mon (T : Nat → V → Hp → Prop) : Prop := ∀ i v H1 H2, T i v H1 → Tu H1 H2 → T i v H2
section
variable {K : PySem.W.Frag} {σ : L2.St} {H : Hp} {Q : VK} {te tl : TE} {g : TG} {vs : List Nat} {a p : Addr} {xs : List V}
def LcT (T : Nat → V → Hp → Prop) (n : Nat) (acc : List V) (H : Hp) : Prop := acc.length = n ∧ ∀ (j : Nat) v, acc[j]? = some v → T j v H
theorem LcT.nil {T : Nat → V → Hp → Prop} {H : Hp} : LcT T 0 [] H := ⟨rfl, fun j v e => by simp at e⟩
theorem LcT.mono {T : Nat → V → Hp → Prop} (m : Mon T) {n : Nat} {acc : List V} {H H' : Hp} (h : LcT T n acc H) (t : Tu H H') : LcT T n acc H' := ⟨h.1, fun j v e => m j v _ _ (h.2 j v e) t⟩
theorem LcT.snoc {T : Nat → V → Hp → Prop} {n : Nat} {acc : List V} {H : Hp} {v : V} (h : LcT T n acc H) (t : T n v H) : LcT T (n + 1) (acc ++ [v]) H := by
  refine ⟨by simp [h.1], fun j w e => ?_⟩
  by_cases hj : j < acc.length
  · rw [List.getElem?_append_left hj] at e
    exact h.2 j w e
  · rw [List.getElem?_append_right (by omega)] at e
    have hz : j - acc.length = 0 := by
      cases q : j - acc.length with
      | zero => rfl
      | succ m => rw [q] at e; simp at e
    have : j = n := by have := h.1; omega
    rw [hz] at e
    simp at e
    subst e this
    exact t
/-- the state of a comprehension that changes nothing -/
def LcS (H : Hp) (D : Addr) (T : Nat → V → Hp → Prop) (i : Nat) (H' : Hp) : Prop := ∃ acc, H' D = some (.lst acc) ∧ Same H H' ∧ LcT T i acc H'
theorem LcS.start {D : Addr} {T : Nat → V → Hp → Prop} (n : H D = none) : LcS H D T 0 (upd H D (.lst [])) := ⟨[], upd_same, new_same n, LcT.nil⟩
theorem LcS.turn {D : Addr} {T : Nat → V → Hp → Prop} (m : Mon T) (n : H D = none) {i : Nat} {H' : Hp} (h : LcS H D T i H') (hi : i ≤ 100000) {H2 : Hp} {v : V} (s : Same H' H2) (t : T i v H2) :
    ∃ acc, H2 D = some (.lst acc) ∧ acc.length < sizeLine ∧ LcS H D T (i + 1) (upd H2 D (.lst (acc ++ [v]))) := by
  obtain ⟨acc, h1, h2, h3⟩ := h
  have e := s _ _ h1
  have hl := h3.1
  refine ⟨acc, e, Nat.lt_of_le_of_lt (by omega : acc.length ≤ 100000) (by decide), acc ++ [v], upd_same, ?_, ?_⟩
  · exact fun b o q => by rw [upd_ne (ne_of_none q n)]; exact s _ _ (h2 b o q)
  · exact ((h3.mono m (.of s)).snoc t).mono m (Tu.set e _)
/-- .. one that draws from the purse -/
def LcG (p : Addr) (H : Hp) (D : Addr) (T : Nat → V → Hp → Prop) (i : Nat) (H' : Hp) : Prop := ∃ acc, H' D = some (.lst acc) ∧ Go p H H' ∧ LcT T i acc H'
theorem LcG.start {D : Addr} {T : Nat → V → Hp → Prop} (q : Pur H p) (n : H D = none) : LcG p H D T 0 (upd H D (.lst [])) := ⟨[], upd_same, Go.of q (new_same n), LcT.nil⟩
theorem go_set {p D : Addr} {H H' : Hp} {ys : List V} (q : Pur H p) (n : H D = none) (h : Go p H H') (e : H' D = some (.lst ys)) (zs : List V) : Go p H (upd H' D (.lst zs)) := by
  have nd : D ≠ p := q.ne n
  refine ⟨fun b o r nb => ?_, fun b o r nb => ?_, ?_⟩
  · rw [upd_ne (ne_of_none r n)]; exact h.keep b o r nb
  · rw [upd_ne (ne_of_none r n)]; exact h.tu b o r nb
  · obtain ⟨a, b, r, z⟩ := h.pur
    exact ⟨a, b, by rw [upd_ne nd.symm]; exact r, z⟩
theorem LcG.turn {D : Addr} {T : Nat → V → Hp → Prop} (m : Mon T) (q : Pur H p) (n : H D = none) {i : Nat} {H' : Hp} (h : LcG p H D T i H') (hi : i ≤ 100000) {H2 : Hp} {v : V} (s : Go p H' H2) (t : T i v H2) :
    ∃ acc, H2 D = some (.lst acc) ∧ acc.length < sizeLine ∧ LcG p H D T (i + 1) (upd H2 D (.lst (acc ++ [v]))) := by
  obtain ⟨acc, h1, h2, h3⟩ := h
  have e := s.keep _ _ h1 (q.ne n)
  have hl := h3.1
  refine ⟨acc, e, Nat.lt_of_le_of_lt (by omega : acc.length ≤ 100000) (by decide), acc ++ [v], upd_same, ?_, ?_⟩
  · exact go_set q n (h2.trans s) e _
  · exact ((h3.mono m s.tu).snoc t).mono m (Tu.set e _)
/-- [te for g in tuple] -/
theorem w_lcT (T : Nat → V → Hp → Prop) (m : Mon T) (hx : SqT K H a xs) (hz : xs.length ≤ 100000)
    (turn : ∀ i x H', xs[i]? = some x → Same H H' → ∀ Q' : VK, (∀ v H2, Same H' H2 → T i v H2 → Q' v H2) → g x (wipe σ vs) H' fun σ2 H2 => wipe σ2 vs = wipe σ vs ∧ te σ2 H2 Q')
    (k : ∀ D H' acc, H D = none → Same H H' → H' D = some (.lst acc) → LcT T xs.length acc H' → Q (.ref D) H') (tl : TE) (htl : ∀ R : V → Hp → Prop, R (.ref a) H → tl σ H R) : tLc (iTup K tl) g tYes te vs σ H Q := by
  refine htl _ ⟨a, rfl, ⟨_, hx⟩, fun D n => ?_⟩
  refine lc_tup (K := K) (a := a) (xs := xs) (LcS H D T) (LcS.start n) (fun i H' _ ⟨_, _, s, _⟩ => same_tup s hx) (fun i x H' hi h => ?_) (fun H' ⟨acc, h1, h2, h3⟩ => k D H' acc n h2 h1 h3)
  have hil : i < xs.length := (List.getElem?_eq_some_iff.mp hi).1
  obtain ⟨_, _, s, _⟩ := id h
  exact turn i x H' hi s _ fun v H2 s2 t => LcS.turn m n h (by omega) s2 t
/-- [te for g in list] -/
theorem w_lcL (T : Nat → V → Hp → Prop) (m : Mon T) (hx : SqL K H a xs) (hz : xs.length ≤ 100000)
    (turn : ∀ i x H', xs[i]? = some x → Same H H' → ∀ Q' : VK, (∀ v H2, Same H' H2 → T i v H2 → Q' v H2) → g x (wipe σ vs) H' fun σ2 H2 => wipe σ2 vs = wipe σ vs ∧ te σ2 H2 Q')
    (k : ∀ D H' acc, H D = none → Same H H' → H' D = some (.lst acc) → LcT T xs.length acc H' → Q (.ref D) H') (tl : TE) (htl : ∀ R : V → Hp → Prop, R (.ref a) H → tl σ H R) : tLc (iList K tl) g tYes te vs σ H Q := by
  refine htl _ ⟨a, rfl, ⟨_, hx⟩, fun D n => ?_⟩
  refine lc_list (K := K) (a := a) (xs := xs) (LcS H D T) (LcS.start n) (fun i H' _ ⟨_, _, s, _⟩ => s.seq hx) (fun i x H' hi h => ?_) (fun H' ⟨acc, h1, h2, h3⟩ => k D H' acc n h2 h1 h3)
  have hil : i < xs.length := (List.getElem?_eq_some_iff.mp hi).1
  obtain ⟨_, _, s, _⟩ := id h
  exact turn i x H' hi s _ fun v H2 s2 t => LcS.turn m n h (by omega) s2 t
/-- [te for g in range(n)] -/
theorem w_lcR (n : Int) (T : Nat → V → Hp → Prop) (m : Mon T) (hz : n ≤ 100000)
    (turn : ∀ (i : Nat) H', (i : Int) < n → Same H H' → ∀ Q' : VK, (∀ v H2, Same H' H2 → T i v H2 → Q' v H2) → g (.int (0 + i)) (wipe σ vs) H' fun σ2 H2 => wipe σ2 vs = wipe σ vs ∧ te σ2 H2 Q')
    (k : ∀ D H' acc, H D = none → Same H H' → H' D = some (.lst acc) → LcT T n.toNat acc H' → Q (.ref D) H') (tl : TA) (hn : -1000 ≤ n) (htl : ∀ R : List V → Hp → Prop, R [.int n] H → tl σ H R) : tLc (iRng1 tl) g tYes te vs σ H Q := by
  refine htl _ ⟨n, rfl, by omega, by omega, fun D hD => ?_⟩
  refine lc_range (lo := 0) (n := n.toNat) (LcS H D T) (LcS.start hD) (fun i H' hi h => ?_) (fun H' ⟨acc, h1, h2, h3⟩ => k D H' acc hD h2 h1 h3)
  obtain ⟨_, _, s, _⟩ := id h
  exact turn i H' (by omega) s _ fun v H2 s2 t => LcS.turn m hD h (by omega) s2 t
/-- the same, drawing -/
theorem w_lgR (n : Int) (T : Nat → V → Hp → Prop) (m : Mon T) (q : Pur H p) (hz : n ≤ 100000)
    (turn : ∀ (i : Nat) H', (i : Int) < n → Go p H H' → ∀ Q' : VK, (∀ v H2, Go p H' H2 → T i v H2 → Q' v H2) → g (.int (0 + i)) (wipe σ vs) H' fun σ2 H2 => wipe σ2 vs = wipe σ vs ∧ te σ2 H2 Q')
    (k : ∀ D H' acc, H D = none → Go p H H' → H' D = some (.lst acc) → LcT T n.toNat acc H' → Q (.ref D) H') (tl : TA) (hn : -1000 ≤ n) (htl : ∀ R : List V → Hp → Prop, R [.int n] H → tl σ H R) : tLc (iRng1 tl) g tYes te vs σ H Q := by
  refine htl _ ⟨n, rfl, by omega, by omega, fun D hD => ?_⟩
  refine lc_range (lo := 0) (n := n.toNat) (LcG p H D T) (LcG.start q hD) (fun i H' hi h => ?_) (fun H' ⟨acc, h1, h2, h3⟩ => k D H' acc hD h2 h1 h3)
  obtain ⟨_, _, s, _⟩ := id h
  exact turn i H' (by omega) s _ fun v H2 s2 t => LcG.turn m q hD h (by omega) s2 t
theorem w_lgL (T : Nat → V → Hp → Prop) (m : Mon T) (q : Pur H p) (hx : SqL K H a xs) (na : a ≠ p) (hz : xs.length ≤ 100000)
    (turn : ∀ i x H', xs[i]? = some x → Go p H H' → ∀ Q' : VK, (∀ v H2, Go p H' H2 → T i v H2 → Q' v H2) → g x (wipe σ vs) H' fun σ2 H2 => wipe σ2 vs = wipe σ vs ∧ te σ2 H2 Q')
    (k : ∀ D H' acc, H D = none → Go p H H' → H' D = some (.lst acc) → LcT T xs.length acc H' → Q (.ref D) H') (tl : TE) (htl : ∀ R : V → Hp → Prop, R (.ref a) H → tl σ H R) : tLc (iList K tl) g tYes te vs σ H Q := by
  refine htl _ ⟨a, rfl, ⟨_, hx⟩, fun D n => ?_⟩
  refine lc_list (K := K) (a := a) (xs := xs) (LcG p H D T) (LcG.start q n) (fun i H' _ ⟨_, _, s, _⟩ => s.keep.seq hx na) (fun i x H' hi h => ?_) (fun H' ⟨acc, h1, h2, h3⟩ => k D H' acc n h2 h1 h3)
  have hil : i < xs.length := (List.getElem?_eq_some_iff.mp hi).1
  obtain ⟨_, _, s, _⟩ := id h
  exact turn i x H' hi s _ fun v H2 s2 t => LcG.turn m q n h (by omega) s2 t
theorem w_lgT (T : Nat → V → Hp → Prop) (m : Mon T) (q : Pur H p) (hx : SqT K H a xs) (hz : xs.length ≤ 100000)
    (turn : ∀ i x H', xs[i]? = some x → Go p H H' → ∀ Q' : VK, (∀ v H2, Go p H' H2 → T i v H2 → Q' v H2) → g x (wipe σ vs) H' fun σ2 H2 => wipe σ2 vs = wipe σ vs ∧ te σ2 H2 Q')
    (k : ∀ D H' acc, H D = none → Go p H H' → H' D = some (.lst acc) → LcT T xs.length acc H' → Q (.ref D) H') (tl : TE) (htl : ∀ R : V → Hp → Prop, R (.ref a) H → tl σ H R) : tLc (iTup K tl) g tYes te vs σ H Q := by
  refine htl _ ⟨a, rfl, ⟨_, hx⟩, fun D n => ?_⟩
  refine lc_tup (K := K) (a := a) (xs := xs) (LcG p H D T) (LcG.start q n) (fun i H' _ ⟨_, _, s, _⟩ => s.tu.tup hx) (fun i x H' hi h => ?_) (fun H' ⟨acc, h1, h2, h3⟩ => k D H' acc n h2 h1 h3)
  have hil : i < xs.length := (List.getElem?_eq_some_iff.mp hi).1
  obtain ⟨_, _, s, _⟩ := id h
  exact turn i x H' hi s _ fun v H2 s2 t => LcG.turn m q n h (by omega) s2 t
end
/-- the elements are those of a function -/
theorem LcT.map {α : Type} (mk : α → V) (h : Nat → α) {n : Nat} {acc : List V} {H : Hp} (l : LcT (fun i v _ => v = mk (h i)) n acc H) : acc = ((List.range n).map h).map mk := by
  apply List.ext_getElem?
  intro j
  by_cases hj : j < n
  · have h1 : j < acc.length := by rw [l.1]; exact hj
    have e := l.2 j acc[j] (List.getElem?_eq_getElem h1)
    rw [List.getElem?_eq_getElem h1, e]
    simp [hj]
  · rw [List.getElem?_eq_none (by rw [l.1]; omega), List.getElem?_eq_none (by simp; omega)]
theorem LcT.mapL {α : Type} {mk : α → V} {l : List α} {acc : List V} {H : Hp} (t : LcT (fun i v _ => ∃ x, l[i]? = some x ∧ v = mk x) l.length acc H) : acc = l.map mk := by
  apply List.ext_getElem?
  intro j
  by_cases hj : j < l.length
  · have h1 : j < acc.length := by rw [t.1]; exact hj
    obtain ⟨x, e1, e2⟩ := t.2 j acc[j] (List.getElem?_eq_getElem h1)
    rw [List.getElem?_eq_getElem h1, e2, List.getElem?_map, e1]
    rfl
  · rw [List.getElem?_eq_none (by rw [t.1]; omega), List.getElem?_eq_none (by simp; omega)]
theorem paired_get {α β : Type} {F : α → β → Prop} : ∀ {l₁ : List α} {l₂ : List β} {i : Nat} {x : α}, Paired F l₁ l₂ → l₁[i]? = some x → ∃ y, l₂[i]? = some y ∧ F x y
  | _, _, _, _, .nil, e => by simp at e
  | _, _, 0, _, .cons r _, e => by simp at e; subst e; exact ⟨_, rfl, r⟩
  | _, _, i + 1, x, .cons _ t, e => by
    obtain ⟨y, h1, h2⟩ := paired_get (i := i) (x := x) t (by simpa using e)
    exact ⟨y, by simpa using h1, h2⟩
theorem paired_len {α β : Type} {F : α → β → Prop} {l₁ : List α} {l₂ : List β} (h : Paired F l₁ l₂) : l₁.length = l₂.length := Paired.length h
theorem paired_mono {α β : Type} {F G : α → β → Prop} (m : ∀ a b, F a b → G a b) : ∀ {l₁ : List α} {l₂ : List β}, Paired F l₁ l₂ → Paired G l₁ l₂
  | _, _, .nil => .nil
  | _, _, .cons r t => .cons (m _ _ r) (paired_mono m t)
theorem paired_append {α β : Type} {F : α → β → Prop} : ∀ {a b : List α} {c d : List β}, Paired F a c → Paired F b d → Paired F (a ++ b) (c ++ d)
  | _, _, _, _, .nil, s => s
  | _, _, _, _, .cons r t, s => .cons r (paired_append t s)
theorem paired_take {α β : Type} {F : α → β → Prop} : ∀ {a : List α} {c : List β} (n : Nat), Paired F a c → Paired F (a.take n) (c.take n)
  | _, _, 0, _ => .nil
  | _, _, _ + 1, .nil => .nil
  | _, _, n + 1, .cons r t => .cons r (paired_take n t)
theorem paired_drop {α β : Type} {F : α → β → Prop} : ∀ {a : List α} {c : List β} (n : Nat), Paired F a c → Paired F (a.drop n) (c.drop n)
  | _, _, 0, h => h
  | _, _, _ + 1, .nil => .nil
  | _, _, n + 1, .cons _ t => paired_drop n t
theorem paired_last {α β : Type} {F : α → β → Prop} {a : List α} {c : List β} {y : β} (h : Paired F (a) (c ++ [y])) : ∃ a' x, a = a' ++ [x] ∧ Paired F a' c ∧ F x y := by
  induction c generalizing a with
  | nil =>
    cases h with
    | cons r t => cases t; exact ⟨[], _, rfl, .nil, r⟩
  | cons z c ih =>
    cases h with
    | cons r t =>
      obtain ⟨a', x, rfl, h1, h2⟩ := ih t
      exact ⟨_ :: a', x, rfl, .cons r h1, h2⟩
theorem lct_paired {α : Type} {G : V → α → Hp → Prop} {l : List α} {acc : List V} {H : Hp} (t : LcT (fun i v H => ∃ x, l[i]? = some x ∧ G v x H) l.length acc H) : Paired (fun v x => G v x H) acc l := by
  induction l generalizing acc with
  | nil =>
    have := t.1
    simp at this
    subst this
    exact .nil
  | cons y l ih =>
    cases acc with
    | nil => have := t.1; simp at this
    | cons v acc =>
      obtain ⟨x, e1, e2⟩ := t.2 0 v rfl
      simp at e1
      subst e1
      refine .cons e2 (ih ⟨by have := t.1; simpa using this, fun j w e => ?_⟩)
      obtain ⟨x, q1, q2⟩ := t.2 (j + 1) w (by simpa using e)
      exact ⟨x, by simpa using q1, q2⟩
end Fz

/-! ### a comprehension whose source is read first -/
namespace Fz
open PySem L2
def LcEnd (J : It) (g : TG) (tt : TT) (te : TE) (vs : List Nat) (σ : L2.St) (Q : VK) (H1 : Hp) : Prop := ∀ D, H1 D = none → ∃ W : Nat → Nat → Hp → Prop, (∃ m, W 0 m (upd H1 D (.lst []))) ∧ ∀ i m H, W i m H →
  (J.stop i H ∧ Q (.ref D) H) ∨ (J.go i H ∧ ∃ Nx : Hp → Prop, (∀ H', Nx H' → ∃ m', m' < m ∧ W (i + 1) m' H') ∧ ∀ x H', J.yld i H x H' → g x (wipe σ vs) H' fun σ2 H2 => wipe σ2 vs = wipe σ vs ∧ tt σ2 H2 fun b H3 =>
    if b = true then te σ2 H3 fun y H4 => ∃ acc, H4 D = some (.lst acc) ∧ acc.length < sizeLine ∧ Nx (upd H4 D (.lst (acc ++ [y]))) else Nx H3)
section
variable {K : PySem.W.Frag} {σ : L2.St} {H : Hp} {Q : VK} {te : TE} {g : TG} {vs : List Nat} {a p : Addr} {xs : List V} {wi : TI} {tt : TT}
theorem w_lc (h : wi σ H fun J H1 => LcEnd J g tt te vs σ Q H1) : tLc wi g tt te vs σ H Q := h
theorem lc_L (T : Nat → V → Hp → Prop) (m : Mon T) (hx : SqL K H a xs) (hz : xs.length ≤ 100000)
    (turn : ∀ i x H', xs[i]? = some x → Same H H' → ∀ Q' : VK, (∀ v H2, Same H' H2 → T i v H2 → Q' v H2) → g x (wipe σ vs) H' fun σ2 H2 => wipe σ2 vs = wipe σ vs ∧ te σ2 H2 Q')
    (k : ∀ D H' acc, H D = none → Same H H' → H' D = some (.lst acc) → LcT T xs.length acc H' → Q (.ref D) H') : ∃ a', V.ref a = .ref a' ∧ (∃ xs, SqL K H a' xs) ∧ LcEnd (Itl K a') g tYes te vs σ Q H :=
  w_lcL (K := K) (a := a) T m hx hz turn k (tC (.ref a)) (fun _ r => r)
theorem lc_T (T : Nat → V → Hp → Prop) (m : Mon T) (hx : SqT K H a xs) (hz : xs.length ≤ 100000)
    (turn : ∀ i x H', xs[i]? = some x → Same H H' → ∀ Q' : VK, (∀ v H2, Same H' H2 → T i v H2 → Q' v H2) → g x (wipe σ vs) H' fun σ2 H2 => wipe σ2 vs = wipe σ vs ∧ te σ2 H2 Q')
    (k : ∀ D H' acc, H D = none → Same H H' → H' D = some (.lst acc) → LcT T xs.length acc H' → Q (.ref D) H') : ∃ a', V.ref a = .ref a' ∧ (∃ xs, SqT K H a' xs) ∧ LcEnd (Itt K a') g tYes te vs σ Q H :=
  w_lcT (K := K) (a := a) T m hx hz turn k (tC (.ref a)) (fun _ r => r)
theorem lg_L (T : Nat → V → Hp → Prop) (m : Mon T) (q : Pur H p) (hx : SqL K H a xs) (na : a ≠ p) (hz : xs.length ≤ 100000)
    (turn : ∀ i x H', xs[i]? = some x → Go p H H' → ∀ Q' : VK, (∀ v H2, Go p H' H2 → T i v H2 → Q' v H2) → g x (wipe σ vs) H' fun σ2 H2 => wipe σ2 vs = wipe σ vs ∧ te σ2 H2 Q')
    (k : ∀ D H' acc, H D = none → Go p H H' → H' D = some (.lst acc) → LcT T xs.length acc H' → Q (.ref D) H') : ∃ a', V.ref a = .ref a' ∧ (∃ xs, SqL K H a' xs) ∧ LcEnd (Itl K a') g tYes te vs σ Q H :=
  w_lgL (K := K) (a := a) T m q hx na hz turn k (tC (.ref a)) (fun _ r => r)
theorem lg_T (T : Nat → V → Hp → Prop) (m : Mon T) (q : Pur H p) (hx : SqT K H a xs) (hz : xs.length ≤ 100000)
    (turn : ∀ i x H', xs[i]? = some x → Go p H H' → ∀ Q' : VK, (∀ v H2, Go p H' H2 → T i v H2 → Q' v H2) → g x (wipe σ vs) H' fun σ2 H2 => wipe σ2 vs = wipe σ vs ∧ te σ2 H2 Q')
    (k : ∀ D H' acc, H D = none → Go p H H' → H' D = some (.lst acc) → LcT T xs.length acc H' → Q (.ref D) H') : ∃ a', V.ref a = .ref a' ∧ (∃ xs, SqT K H a' xs) ∧ LcEnd (Itt K a') g tYes te vs σ Q H :=
  w_lgT (K := K) (a := a) T m q hx hz turn k (tC (.ref a)) (fun _ r => r)
theorem lc_R (n : Int) (T : Nat → V → Hp → Prop) (m : Mon T) (hn : -1000 ≤ n) (hz : n ≤ 100000)
    (turn : ∀ (i : Nat) H', (i : Int) < n → Same H H' → ∀ Q' : VK, (∀ v H2, Same H' H2 → T i v H2 → Q' v H2) → g (.int (0 + i)) (wipe σ vs) H' fun σ2 H2 => wipe σ2 vs = wipe σ vs ∧ te σ2 H2 Q')
    (k : ∀ D H' acc, H D = none → Same H H' → H' D = some (.lst acc) → LcT T n.toNat acc H' → Q (.ref D) H') : ∃ j : Int, [V.int n] = [.int j] ∧ -(2 ^ 62) ≤ j ∧ j < 2 ^ 62 ∧ LcEnd (Itr 0 j.toNat) g tYes te vs σ Q H :=
  w_lcR n T m hz turn k (tCons (tC (.int n)) tNil) hn (fun _ r => r)
theorem lg_R (n : Int) (T : Nat → V → Hp → Prop) (m : Mon T) (q : Pur H p) (hn : -1000 ≤ n) (hz : n ≤ 100000)
    (turn : ∀ (i : Nat) H', (i : Int) < n → Go p H H' → ∀ Q' : VK, (∀ v H2, Go p H' H2 → T i v H2 → Q' v H2) → g (.int (0 + i)) (wipe σ vs) H' fun σ2 H2 => wipe σ2 vs = wipe σ vs ∧ te σ2 H2 Q')
    (k : ∀ D H' acc, H D = none → Go p H H' → H' D = some (.lst acc) → LcT T n.toNat acc H' → Q (.ref D) H') : ∃ j : Int, [V.int n] = [.int j] ∧ -(2 ^ 62) ≤ j ∧ j < 2 ^ 62 ∧ LcEnd (Itr 0 j.toNat) g tYes te vs σ Q H :=
  w_lgR n T m q hz turn k (tCons (tC (.int n)) tNil) hn (fun _ r => r)
end
theorem mon_const (f : Nat → V) : Mon (fun i v _ => v = f i) := fun _ _ _ _ h _ => h
theorem all_true {n : Nat} : ((List.range n).map (fun _ => true)).all id = true := by simp
theorem sz {n : Nat} (h : n ≤ 100000) : n ≤ sizeLine := Nat.le_trans h (by decide)
theorem sz1 {n : Nat} (h : n ≤ 100000) : n < sizeLine := Nat.lt_of_le_of_lt h (by decide)
theorem cutV_to (xs : List V) (n : Nat) : cutV xs none (some (n : Int)) = xs.take n := by
  unfold cutV
  rw [HT.sIx_nat]
  show (xs.drop 0).take (min n xs.length - 0) = xs.take n
  rw [List.drop_zero, Nat.sub_zero, List.take_eq_take_iff]
  omega
theorem cutV_from (xs : List V) (n : Nat) : cutV xs (some (n : Int)) none = xs.drop n := by
  unfold cutV
  rw [HT.sIx_nat]
  show (xs.drop (min n xs.length)).take (xs.length - min n xs.length) = xs.drop n
  rw [List.take_of_length_le (by simp)]
  by_cases h : n ≤ xs.length
  · rw [Nat.min_eq_left h]
  · rw [Nat.min_eq_right (by omega), List.drop_eq_nil_of_le (by omega), List.drop_eq_nil_of_le (by omega)]
end Fz
/-! ### calls with keywords, and where defaults fill up -/
namespace Fz
open PySem PySem.Spec PyProof.Rows L2
structure Dx (P : Program) (w : World) (K : PySem.W.Frag) (mg : Str → Option Value) (base : Heap) (CX : CXT) (k : Nat) (x : Str) (ps : List Str) (sp : Sp) (fd : FuncData) : Prop where
  ok : FnG P w K mg base CX k (He.ga K x) fd ps sp
  gl : mg x = some (.ref (He.ga K x))
  kp : PySem.W.keepIn K (.ref (He.ga K x)) = true
section
variable {X : Cx} {CX : CXT} {k n : Nat} {x : Str} {ps ks : List Str} {sp : Sp} {E : XK} {e : Expr} {es : List Expr} {kws : List Keyword} {t tk : TA} {p pos : Pos} {fd : FuncData} {dvs : List V} {gV : List V → List V → List V}
theorem pe_cld (D : Dx X.prog X.w X.K X.mg X.base CX k x ps sp fd) (B : ∃ ds, Vals dvs ds ∧ Binds X.K fd ps ds) (hr : RoomG k X.A) (hg : Gl X x) (hx : Passes CX X E)
    (ha : PA X (e :: es) t) (hdb : (x == ("__debug__" : Str)) = false := by decide) (he : starEach (e :: es) X.env = (false, eval e X.env) :: starEach es X.env := by rfl)
    (hpl : (backTo pos (starEach es X.env)).any (·.1) = false := by rfl) : PE X (.Call (.Name x p) (e :: es) [] pos) (tCall sp dvs E t) := by
  obtain ⟨ds, hd, b⟩ := B
  exact pe_callG D.ok hr hg D.gl D.kp b hd hx ha hdb he hpl
theorem pe_ck (D : Dx X.prog X.w X.K X.mg X.base CX k x ps sp fd) (B : ∃ g, KBn X.K fd ps n ks g gV) (hr : RoomG k X.A) (hg : Gl X x) (hx : Passes CX X E)
    (ha : PA X (e :: es) t) (hkw : PK X kws tk) (hall : (backToKw pos (keywordEach kws X.env)).all (·.1.isSome) = true := by rfl) (hks : (backToKw pos (keywordEach kws X.env)).filterMap (·.1) = ks := by rfl)
    (hdb : (x == ("__debug__" : Str)) = false := by decide) (he : starEach (e :: es) X.env = (false, eval e X.env) :: starEach es X.env := by rfl)
    (hpl : ((backTo pos (starEach (e :: es) X.env)).any (·.1) || (backToKw pos (keywordEach kws X.env)).any (·.1.isNone)) = false := by rfl) :
    PE X (.Call (.Name x p) (e :: es) kws pos) (tCallN n ks.length sp gV E t tk) := by
  obtain ⟨g, b⟩ := B
  exact pe_callNG D.ok hr hg D.gl D.kp b hx ha hkw hall hks hdb he hpl
end
/-- no defaults but keyword-only ones: all keywords are written -/
theorem kbn_of {K : PySem.W.Frag} {x qual : Str} {params : Arguments} {body : List Stmt} {scope : Scope} {kws : List (Str × V)} {f : Addr} {fd : FuncData} {ps : List Str} (F : FunD K x qual params body scope [] kws f fd) (n : Nat) (ks : List Str) (g : {α : Type} → List α → List α → List α)
    (hrel : ∀ {vs zs : List V} {us ws : List Value}, Vals vs us → Vals zs ws → Vals (g vs zs) (g us ws))
    (h : ∀ (kV doc pm : Value) (an : Option Addr) (cdv ct : Value) (us ws : List Value), us.length = n → ws.length = ks.length → bindArgs (PySem.W.fnOf x qual params body scope .none kV doc pm an cdv ct) ⟨us, ks.zip ws⟩ = pure (ps.zip (g us ws))) :
    ∃ g', KBn K fd ps n ks g' (fun vs zs => g vs zs) := by
  obtain ⟨oc, od, dV, kV, doc, pm, an, cdv, ct, osl, rfl, lk, hcd, hD, hK⟩ := F.ex
  rcases hD with ⟨_, rfl⟩ | ⟨e, _⟩
  · exact ⟨fun us ws => g us ws, fun s us ws _ l1 l2 => .of_eq (h kV doc pm an cdv ct us ws l1 l2), fun r1 r2 => hrel r1 r2⟩
  · exact absurd rfl e
section
variable {σ : L2.St} {H : Hp} {Q : VK} {t tk : TA} {sp : Sp} {E : XK} {gV : List V → List V → List V} {n m : Nat}
theorem w_callN (h : t σ H fun vs H1 => tk σ H1 fun zs H2 => vs.length = n ∧ zs.length = m ∧ sp (gV vs zs) H2 Q E) : tCallN n m sp gV E t tk σ H Q := h
theorem w_lens {vs zs : List V} {Z : Prop} (h1 : vs.length = n) (h2 : zs.length = m) (h : Z) : vs.length = n ∧ zs.length = m ∧ Z := ⟨h1, h2, h⟩
end
end Fz
/-! ### dicts, tuples cut and put behind a list -/
namespace Fz
open PySem PySem.Spec PyProof.Rows L2
theorem PE.le {X : Cx} {e : Expr} {t t' : TE} (h : PE X e t) (m : ∀ σ H Q, t' σ H Q → t σ H Q) : PE X e t' := ⟨fun pins s σ H Q I q => h.run pins s σ H Q I (m _ _ _ q)⟩
def tDNewN : TE := fun _ H Q => NewQ H (.dK []) Q
theorem pe_dnewN {X : Cx} {pos : Pos} : PE X (.Dict [] [] pos) tDNewN := PE.le pe_dnewK fun _ _ _ h p n => NewQ.at h p n
def cLenD : List V → Hp → VK → Prop := fun xs H Q => ∃ a kvs, xs = [V.ref a] ∧ H a = some (.dK kvs) ∧ Q (.int kvs.length) H
theorem call_lenDN {X : Cx} : CallR X (.builtin "len") cLenD := call_lenD
def cListD : List V → Hp → VK → Prop := fun xs H Q => ∃ (a : Addr) (kvs : List (Key × V)), xs = [.ref a] ∧ Rd H a (.dK kvs) ∧ NewQ H (.lst (kvs.map fun kv => kV kv.1)) Q
theorem call_listDN {X : Cx} (hc : X.calm = true) : CallR X (.type "list") cListD := CallR.le (call_listD hc) fun _ _ _ ⟨a, kvs, e, h, q⟩ => ⟨a, kvs, e, h, fun p n => q.at p n⟩
def cDictP (K : PySem.W.Frag) : List V → Hp → VK → Prop := fun xs H Q => ∃ (a : Addr) (ps : List Addr) (kvs : List (Key × V)), xs = [.ref a] ∧ SqL K H a (ps.map V.ref) ∧ Paired (fun p kv => SqT K H p [kV kv.1, kv.2]) ps kvs ∧ NewQ H (.dK (mergeK [] kvs)) Q
theorem k_dictP {X : Cx} {K : PySem.W.Frag} (e : X.K = K) (hc : X.calm = true) : CallR X (.type "dict") (cDictP K) := e ▸ CallR.le (call_dictP hc) fun _ _ _ ⟨a, ps, kvs, e, h, h2, q⟩ => ⟨a, ps, kvs, e, h, h2, fun p n => q.at p n⟩
theorem k_revL {X : Cx} {K : PySem.W.Frag} (e : X.K = K) {ee : Expr} {te : TE} {k : Nat} {p1 p2 p3 pos : Pos} (he : PE X ee te) : PE X (.Subscript ee (.Slice none none (some (.UnaryOp .USub (.Constant (.int 1) k p1) p2)) p3) pos) (tRevL K te) := e ▸ pe_revL he
/-- a tuple cut: the same one, or a new one -/
def rSlTN (K : PySem.W.Frag) : V → Option Int → Option Int → Hp → VK → Prop := fun x lo hi H Q => ∃ a xs, x = .ref a ∧ SqT K H a xs ∧ ∀ b H2, Same H H2 → SqT K H2 b (cutV xs lo hi) → Q (.ref b) H2
theorem k_slTN {X : Cx} {K : PySem.W.Frag} (e : X.K = K) : SlR X (rSlTN K) := e ▸ fun pins s σ H x v vl vu lo hi sl Q I rx hs pl pu ⟨a, xs, e, h, q⟩ => sl_tupA pins s σ H x v vl vu lo hi sl Q I rx hs pl pu ⟨a, xs, e, h, fun ⟨z1, z2⟩ => q a H (Same.refl H) (by
    unfold cutV
    rw [z1, z2, List.drop_zero, Nat.sub_zero, List.take_length]
    exact h), fun _ p n => q p _ (new_same n) (tof upd_same)⟩
/-- xs.extend(a tuple) -/
theorem ext_tup (l : Addr) (items : Array Value) (n : Nat) (b : Addr) (items2 : Array Value) (n2 : Nat) (dd : Option Addr) (sl : Array (Option Value)) (hs0 : ¬(!items.isEmpty && Builtin.List.listTooLong (items.size + items2.size)) = true) (hs1 : items.size ≤ sizeLine) (hs2 : items.size + items2.size ≤ sizeLine + 1) :
    Meets (Builtin.«list.extend» ⟨[.ref l, .ref b], []⟩) (fun _ R s => s.heap.get? l = some { cls := .type "list", dict := none, data := .seq items n, slots := #[] } ∧ s.heap.get? b = some ⟨.type "tuple", dd, .seq items2 n2, sl⟩ ∧ R (.ok (.ret Value.none)) { s with heap := s.heap.update l (Obj.mapSeq fun x => x ++ items2), toks := s.toks }) :=
  .of_wp fun prog w A R s h => by
    obtain ⟨hp, g, d, tk, os⟩ := s
    obtain ⟨hl, hb, h⟩ := h
    have f1 := AutoSeq1.idx_int
    have f2 := AutoSeq1.sub_tuple_tuple
    have f3 := AutoSeq1.sub_list_list
    have f4 := AutoSeq1.sub_tuple_list
    have f5 := AutoSeq1.sub_list_tuple
    have hz' : (items ++ items2).size ≤ sizeLine + 1 := by rw [Array.size_append]; exact hs2
    wp_walk using (wpAny_updateSeq hl rfl (hz := hs1) (_hz' := hz')), wpAny_loadPart' hl, wpAny_loadPart' hb
    exact ⟨_, rfl, h⟩
def rExtT (K : PySem.W.Frag) : V → List V → Hp → VK → Prop := fun x vs H Q => ∃ l b xs zs, x = .ref l ∧ vs = [.ref b] ∧ H l = some (.lst xs) ∧ SqT K H b zs ∧ xs.length + zs.length ≤ sizeLine ∧ ∀ H2, But l H H2 → H2 l = some (.lst (xs ++ zs)) → Q .non H2
theorem mt_extT {X : Cx} : MtR X "list.extend" (rExtT X.K) := by
  intro pins s σ H x vs v us Q I rx rv ⟨l, b, xs, zs, e1, e2, hH, hB, hz, q⟩
  subst e1 e2
  cases rx
  obtain ⟨u, rfl, ru⟩ := rv.one
  cases ru
  obtain ⟨z, its, n, r, hl, e⟩ := I.lstM hH
  obtain ⟨its2, r2, ⟨⟨oc, od, dt, sl⟩, g1, g2, n2, g3⟩, _⟩ := I.tuple hB
  simp only at g2 g3
  subst g2 g3
  have hl2 := r2.length
  have hsz : its.toArray.size + its2.toArray.size ≤ sizeLine := by rw [List.size_toArray, List.size_toArray]; omega
  have hlong : ¬ (!its.toArray.isEmpty && Builtin.List.listTooLong (its.toArray.size + its2.toArray.size)) = true := by rw [notLongL hsz, Bool.and_false]; exact Bool.false_ne_true
  refine call_meets F.slot_list_extend ⟨_, e, rfl⟩ F.entry_list_extend (F.args_list_extend_2 _ _) (ext_tup l its.toArray n b its2.toArray n2 od sl hlong (by rw [List.size_toArray]; omega) (by omega)) ⟨e, g1, ?_⟩
  exact ⟨.non, _, I.lset (its' := its ++ its2) hH e (by simp) (r.append r2) (by rw [List.length_append]; omega), rfl, q _ But.set upd_same⟩
theorem k_extT {X : Cx} {K : PySem.W.Frag} (e : X.K = K) : MtR X "list.extend" (rExtT K) := e ▸ mt_extT
section
variable {K : PySem.W.Frag} {σ : L2.St} {H : Hp} {Q : VK} {D : Ends} {td ty tv tx te : TE} {xs zs : List V} {a b p l d : Addr}
theorem w_dnew (h : NewQ H (.dK []) Q) : tDNewN σ H Q := h
theorem w_dgetU (h : td σ H fun x H1 => ty σ H1 fun y H2 => ∃ a v, x = .ref a ∧ DGet H2 a y (some v) ∧ Q v H2) : tDGet td ty σ H Q := h
theorem w_dget2 (h : td σ H fun x H1 => ∃ a, x = .ref a ∧ IsD H1 a ∧ ty σ H1 fun y H2 => tx σ H2 fun z H3 => ∃ o, DGet H3 a y o ∧ Q (o.getD z) H3) : tDGet2 td ty tx σ H Q := h
theorem w_isD {kvs : List (Key × V)} {R : Addr → Prop} (e : H d = some (.dK kvs)) (h : R d) : ∃ a, V.ref d = .ref a ∧ IsD H a ∧ R a := ⟨d, rfl, .inl ⟨kvs, .inl e⟩, h⟩
theorem w_dput (h : tv σ H fun v H1 => td σ H1 fun x H2 => ty σ H2 fun y H3 => ∃ a H4, x = .ref a ∧ DPut H3 a y v H4 ∧ D.nx σ H4) : sDPut td ty tv D σ H := h
theorem w_dputI {kvs : List (Key × V)} {n : Int} {v : V} {R : Hp → Prop} (e : H d = some (.dK kvs)) (hl : kvs.length < sizeLine) (h : ∀ H2, But d H H2 → H2 d = some (.dK (putK kvs (Sum.inl n) v)) → R H2) : ∃ a H4, V.ref d = .ref a ∧ DPut H a (.int n) v H4 ∧ R H4 := ⟨d, _, rfl, DPut.k (k := Sum.inl n) e hl, h _ But.set upd_same⟩
theorem w_lenD {kvs : List (Key × V)} (e : H d = some (.dK kvs)) (h : Q (.int kvs.length) H) : cLenD [.ref d] H Q := ⟨d, kvs, rfl, e, h⟩
theorem w_listD {kvs : List (Key × V)} (e : H d = some (.dK kvs)) (h : NewQ H (.lst (kvs.map fun kv => kV kv.1)) Q) : cListD [.ref d] H Q := ⟨d, kvs, rfl, .inl e, h⟩
theorem w_revU (h : te σ H fun x H1 => ∃ a xs, x = .ref a ∧ SqL K H1 a xs ∧ ∀ p, H1 p = none → Q (.ref p) (upd H1 p (.lst xs.reverse))) : tRevL K te σ H Q := h
theorem w_slT {lo hi : Option Int} (hs : SqT K H p xs) (h : ∀ b H2, Same H H2 → SqT K H2 b (cutV xs lo hi) → Q (.ref b) H2) : rSlTN K (.ref p) lo hi H Q := ⟨p, xs, rfl, hs, h⟩
theorem w_extT (hp : H p = some (.lst xs)) (hb : SqT K H b zs) (hl : xs.length + zs.length ≤ sizeLine) (h : ∀ H2, But p H H2 → H2 p = some (.lst (xs ++ zs)) → Q .non H2) : rExtT K (.ref p) [.ref b] H Q := ⟨p, b, xs, zs, rfl, rfl, hp, hb, hl, h⟩
/-- a heap behind a new object, as a letter -/
theorem new_as {H : Hp} {p : Addr} {o : HO} {Z : Hp → Prop} (n : H p = none) (h : ∀ H2, Same H H2 → H2 p = some o → Z H2) : Z (upd H p o) := h _ (new_same n) upd_same
end
end Fz
/-! ### data of any kind, as they stand in the heap (p: the purse is no part of them); their texts -/
namespace Fz
open PySem PySem.Spec PyProof.Rows L2
def kD : Key → PyData
  | .inl i => .int i
  | .inr x => .str x
mutual
inductive Dq (K : PySem.W.Frag) (p : Addr) (H : Hp) : V → PyData → Prop
  | non : Dq K p H .non .none
  | bl (b : Bool) : Dq K p H (.bl b) (.bool b)
  | int (i : Int) : Dq K p H (.int i) (.int i)
  | str (x : Str) : Dq K p H (.str x) (.str x)
  | lst {a : Addr} {xs : List V} {ds : List PyData} : a ≠ p → SqL K H a xs → DqAll K p H xs ds → Dq K p H (.ref a) (.list ds)
  | tup {a : Addr} {xs : List V} {ds : List PyData} : SqT K H a xs → DqAll K p H xs ds → Dq K p H (.ref a) (.tuple ds)
  | dct {a : Addr} {es : List (Key × V)} {ds : List PyData} : a ≠ p → H a = some (.dK es) → DqAll K p H (es.map (·.2)) ds → Dq K p H (.ref a) (.dict ((es.map fun e => kD e.1).zip ds))
inductive DqAll (K : PySem.W.Frag) (p : Addr) (H : Hp) : List V → List PyData → Prop
  | nil : DqAll K p H [] []
  | cons {v : V} {vs : List V} {d : PyData} {ds : List PyData} : Dq K p H v d → DqAll K p H vs ds → DqAll K p H (v :: vs) (d :: ds)
end
section
variable {K : PySem.W.Frag} {p : Addr} {H H' : Hp}
theorem DqAll.of : ∀ {xs : List V} {ds : List PyData}, Paired (Dq K p H) xs ds → DqAll K p H xs ds
  | _, _, .nil => .nil
  | _, _, .cons r t => .cons r (DqAll.of t)
theorem DqAll.paired : ∀ {xs : List V} {ds : List PyData}, DqAll K p H xs ds → Paired (Dq K p H) xs ds
  | _, _, .nil => .nil
  | _, _, .cons r t => .cons r t.paired
mutual
theorem Dq.keep (k : But p H H') (t : Tu H H') : ∀ {v : V} {d : PyData}, Dq K p H v d → Dq K p H' v d
  | _, _, .non => .non
  | _, _, .bl b => .bl b
  | _, _, .int i => .int i
  | _, _, .str x => .str x
  | _, _, .lst n h a => .lst n (k.seq h n) (DqAll.keep k t a)
  | _, _, .tup h a => .tup (t.tup h) (DqAll.keep k t a)
  | _, _, .dct n h a => .dct n (k _ _ h n) (DqAll.keep k t a)
theorem DqAll.keep (k : But p H H') (t : Tu H H') : ∀ {xs : List V} {ds : List PyData}, DqAll K p H xs ds → DqAll K p H' xs ds
  | _, _, .nil => .nil
  | _, _, .cons r q => .cons (Dq.keep k t r) (DqAll.keep k t q)
end
theorem Dq.go {v : V} {d : PyData} (g : Go p H H') (h : Dq K p H v d) : Dq K p H' v d := h.keep g.keep g.tu
theorem Dq.same {v : V} {d : PyData} (h : Dq K p H v d) (g : Same H H') : Dq K p H' v d := h.keep (.of g) (.of g)
end
/-! what is well to show; k: no dict within (true), no list within (false) -/
mutual
def good (k : Bool) : PyData → Bool
  | .none | .bool _ => true
  | .int i => decide (i.natAbs.log2 < 1920)
  | .str x => x.cps.toList.all fun c => decide (c < 16 ^ 8)
  | .list xs => k && goodAll k xs
  | .tuple xs => goodAll k xs
  | .dict kvs => !k && goodKv k kvs
def goodAll (k : Bool) : List PyData → Bool
  | [] => true
  | x :: xs => good k x && goodAll k xs
def goodKv (k : Bool) : List (PyData × PyData) → Bool
  | [] => true
  | (a, b) :: r => good k a && good k b && goodKv k r
end
mutual
def wt : PyData → Nat
  | .none | .bool _ => 5
  | .int i => (toString i : Str).length
  | .str x => 10 * x.length + 2
  | .list xs | .tuple xs => 3 + wtAll xs
  | .dict kvs => 3 + wtKv kvs
def wtAll : List PyData → Nat
  | [] => 0
  | x :: xs => wt x + 2 + wtAll xs
def wtKv : List (PyData × PyData) → Nat
  | [] => 0
  | (a, b) :: r => wt a + wt b + 4 + wtKv r
end
mutual
theorem good_show {k : Bool} : ∀ d : PyData, good k d = true → d.showable = true
  | .none, _ => by simp only [PyData.showable]
  | .bool _, _ => by simp only [PyData.showable]
  | .int i, h => by simpa only [good, PyData.showable] using h
  | .str x, _ => by simp only [PyData.showable]
  | .list xs, h => by
    simp only [good, Bool.and_eq_true] at h
    simp only [PyData.showable]
    exact good_showAll xs h.2
  | .tuple xs, h => by
    simp only [good] at h
    simp only [PyData.showable]
    exact good_showAll xs h
  | .dict kvs, h => by
    simp only [good, Bool.and_eq_true] at h
    simp only [PyData.showable]
    exact good_showKv kvs h.2
theorem good_showAll {k : Bool} : ∀ xs : List PyData, goodAll k xs = true → PyData.showableAll xs = true
  | [], _ => by simp only [PyData.showableAll]
  | x :: xs, h => by
    simp only [goodAll, Bool.and_eq_true] at h
    simp only [PyData.showableAll, Bool.and_eq_true]
    exact ⟨good_show x h.1, good_showAll xs h.2⟩
theorem good_showKv {k : Bool} : ∀ xs : List (PyData × PyData), goodKv k xs = true → PyData.showableKv xs = true
  | [], _ => by simp only [PyData.showableKv]
  | (a, b) :: r, h => by
    simp only [goodKv, Bool.and_eq_true] at h
    simp only [PyData.showableKv, Bool.and_eq_true]
    exact ⟨⟨good_show a h.1.1, good_show b h.1.2⟩, good_showKv r h.2⟩
end
mutual
theorem good_nodict : ∀ d : PyData, good true d = true → d.hasDict = false
  | .none, _ => by simp only [PyData.hasDict]
  | .bool _, _ => by simp only [PyData.hasDict]
  | .int _, _ => by simp only [PyData.hasDict]
  | .str _, _ => by simp only [PyData.hasDict]
  | .list xs, h => by
    simp only [good, Bool.and_eq_true] at h
    simp only [PyData.hasDict]
    exact good_nodictAll xs h.2
  | .tuple xs, h => by
    simp only [good] at h
    simp only [PyData.hasDict]
    exact good_nodictAll xs h
  | .dict kvs, h => by simp [good] at h
theorem good_nodictAll : ∀ xs : List PyData, goodAll true xs = true → PyData.hasDictAll xs = false
  | [], _ => by simp only [PyData.hasDictAll]
  | x :: xs, h => by
    simp only [goodAll, Bool.and_eq_true] at h
    simp only [PyData.hasDictAll, good_nodict x h.1, good_nodictAll xs h.2, Bool.or_false]
end
theorem join_piled (ts : List Str) : (Str.join ", " ts).length ≤ piled ts := by
  cases ts with
  | nil => exact Nat.le_refl _
  | cons t r =>
    have := join_length_add (t :: r) (by simp)
    omega
theorem listText_le (ts : List Str) : (listText ts).length ≤ 3 + piled ts := by
  have e : (listText ts).length = (textFrom 0 "[" ts).length + 1 := by
    show (textFrom 0 "[" ts ++ "]").length = _
    rw [strLen_append]
    rfl
  rw [e]
  cases ts with
  | nil =>
    show (("[" : Str)).length + 1 ≤ _
    have : (("[" : Str)).length = 1 := rfl
    omega
  | cons t r =>
    have h := textFrom_length_pos r 1 (("[" : Str) ++ ("" : String) ++ t) (by decide)
    have e2 : (textFrom 0 "[" (t :: r)).length = (textFrom 1 (("[" : Str) ++ ("" : String) ++ t) r).length := rfl
    rw [e2, h, strLen_append, strLen_append, piled_cons]
    have h1 : (("[" : Str)).length = 1 := rfl
    have h2 : (Str.ofString ("" : String)).length = 0 := rfl
    omega
theorem tupleText_le (ts : List Str) : (tupleText ts).length ≤ 3 + piled ts := by
  unfold tupleText
  rw [strLen_append, strLen_append]
  have h1 : (("(" : Str)).length = 1 := rfl
  have h2 := join_piled ts
  have h3 : (Str.ofString (if ts.length == 1 then ",)" else ")" : String)).length ≤ 2 := by
    split
    · exact Nat.le_refl 2
    · exact Nat.le_succ 1
  omega
theorem dictText_le (ts : List Str) : (dictText ts).length ≤ 3 + piled ts := by
  unfold dictText
  rw [strLen_append, strLen_append]
  have h1 : (("{" : Str)).length = 1 := rfl
  have h2 := join_piled ts
  have h3 : (("}" : Str)).length = 1 := rfl
  omega
mutual
theorem shown_wt {k : Bool} : ∀ d : PyData, good k d = true → d.shown.length ≤ wt d
  | .none, _ => by simp only [PyData.shown, wt]; decide
  | .bool b, _ => by
    simp only [PyData.shown, wt]
    cases b <;> decide
  | .int i, _ => by simp only [PyData.shown, wt]; exact Nat.le_refl _
  | .str x, h => by
    simp only [good, List.all_eq_true, decide_eq_true_eq] at h
    simp only [PyData.shown, wt]
    exact StrLaws.reprText_len x h
  | .list xs, h => by
    simp only [good, Bool.and_eq_true] at h
    simp only [PyData.shown, wt]
    exact Nat.le_trans (listText_le _) (Nat.add_le_add_left (shown_wtAll xs h.2) 3)
  | .tuple xs, h => by
    simp only [good] at h
    simp only [PyData.shown, wt]
    exact Nat.le_trans (tupleText_le _) (Nat.add_le_add_left (shown_wtAll xs h) 3)
  | .dict kvs, h => by
    simp only [good, Bool.and_eq_true] at h
    simp only [PyData.shown, wt]
    exact Nat.le_trans (dictText_le _) (Nat.add_le_add_left (shown_wtKv kvs h.2) 3)
theorem shown_wtAll {k : Bool} : ∀ xs : List PyData, goodAll k xs = true → piled (PyData.shownAll xs) ≤ wtAll xs
  | [], _ => by simp only [PyData.shownAll, wtAll]; exact Nat.le_refl _
  | x :: xs, h => by
    simp only [goodAll, Bool.and_eq_true] at h
    simp only [PyData.shownAll, wtAll, piled_cons]
    have h1 := shown_wt x h.1
    have h2 := shown_wtAll xs h.2
    omega
theorem shown_wtKv {k : Bool} : ∀ xs : List (PyData × PyData), goodKv k xs = true → piled (PyData.shownKv xs) ≤ wtKv xs
  | [], _ => by simp only [PyData.shownKv, wtKv]; exact Nat.le_refl _
  | (a, b) :: r, h => by
    simp only [goodKv, Bool.and_eq_true] at h
    simp only [PyData.shownKv, wtKv, piled_cons, strLen_append]
    have h1 := shown_wt a h.1.1
    have h2 := shown_wt b h.1.2
    have h3 := shown_wtKv r h.2
    have h4 : ((": " : Str)).length = 2 := rfl
    omega
end
end Fz
/-! ### the text of data by repr -/
namespace Fz
open PySem PySem.Spec PyProof.Rows L2
section
variable {X : Cx} {pins : List (Addr × Obj)} {σ : L2.St} {H : Hp} {s : Shared} {p : Addr}
theorem pairs_keys {w : World} {P : Program} {h : Heap} : ∀ {es : List DictEntry} {vs : List (Key × Value)} {kvs : List (Key × V)}, Pairs (mixKind P w) es vs → KV kvs vs → Vals (kvs.map (·.2)) (es.map (·.val)) ∧ ReadsAll h (es.map (·.key)) (kvs.map fun e => kD e.1) []
  | _, _, _, .nil, .nil => ⟨.nil, .nil⟩
  | _, _, _, .cons (e := e) (kv := kv) h1 e1 t1, .cons (a := q) (l₁ := ks) h2 t2 => by
    obtain ⟨r, z⟩ := pairs_keys (h := h) t1 t2
    obtain ⟨k1, k2⟩ := h2
    refine ⟨.cons (by show RelV q.2 e.val; rw [e1]; exact k2) r, ?_⟩
    have h1 : keyIs kv.1 e.key = true := h1
    rw [← k1] at h1
    obtain ⟨qk, qv⟩ := q
    show ReadsAll h (e.key :: _) (kD qk :: _) ([] ++ [])
    refine .cons ?_ z
    rcases keyIs_shape h1 with ⟨i, t, e2, e3⟩ | ⟨x, t, e2, e3⟩
    · rw [e3]
      simp only at e2
      rw [e2]
      exact .int i t
    · rw [e3]
      simp only at e2
      rw [e2]
      exact .str x t
theorem zip_fst {α β : Type} : ∀ {l : List α} {m : List β}, l.length = m.length → (l.zip m).map (·.1) = l
  | [], [], _ => rfl
  | _ :: l, _ :: m, h => by simp [zip_fst (l := l) (m := m) (by simpa using h)]
theorem zip_snd {α β : Type} : ∀ {l : List α} {m : List β}, l.length = m.length → (l.zip m).map (·.2) = m
  | [], [], _ => rfl
  | _ :: l, _ :: m, h => by simp [zip_snd (l := l) (m := m) (by simpa using h)]
theorem goodKv_vals {k : Bool} : ∀ {l m : List PyData}, l.length = m.length → goodKv k (l.zip m) = true → goodAll k m = true
  | [], [], _, _ => by simp only [goodAll]
  | _ :: l, _ :: m, h, g => by
    simp only [List.zip_cons_cons, goodKv, Bool.and_eq_true] at g
    simp only [goodAll, Bool.and_eq_true]
    exact ⟨g.1.2, goodKv_vals (l := l) (m := m) (by simpa using h) g.2⟩
mutual
theorem Dq.reads (I : Inv X pins σ H s) : ∀ {v : V} {d : PyData} {u : Value}, Dq X.K p H v d → RelV v u → ∃ as, Reads s.heap u d as ∧ (good false d = true → sysModules ∉ as)
  | _, _, u, .non, r => by
    cases (show u = Value.none from r)
    exact ⟨_, .none, by simp⟩
  | _, _, u, .bl b, r => by
    cases (show u = Value.bool b from r)
    exact ⟨_, .bool b, by simp⟩
  | _, _, u, .int i, r => by
    obtain ⟨t, rfl⟩ := (show ∃ t, u = Value.int i t from r)
    exact ⟨_, .int i t, by simp⟩
  | _, _, u, .str x, r => by
    obtain ⟨t, rfl⟩ := (show ∃ t, u = Value.str x t from r)
    exact ⟨_, .str x t, by simp⟩
  | _, _, u, .lst (a := a) (ds := ds) _ h q, r => by
    cases (show u = Value.ref a from r)
    obtain ⟨its, rv, ⟨o, n, h1, h2, _, h3⟩, _⟩ := I.list h
    obtain ⟨as, e, _⟩ := DqAll.reads I q rv
    exact ⟨_, .list h1 h2 h3 (by simpa using e), fun g => by simp [good] at g⟩
  | _, _, u, .tup (a := a) (ds := ds) h q, r => by
    cases (show u = Value.ref a from r)
    obtain ⟨its, rv, ⟨o, h1, h2, n, h3⟩, _⟩ := I.tuple h
    obtain ⟨as, e, g⟩ := DqAll.reads I q rv
    exact ⟨_, .tuple h1 h2 h3 (by simpa using e), fun z => g (by simpa only [good] using z)⟩
  | _, _, u, .dct (a := a) (es := es) (ds := ds) _ h q, r => by
    cases (show u = Value.ref a from r)
    obtain ⟨_, hsm, vs, kv, o, ee, ep, h1, h2, h3, _, h5, _⟩ := (show ObjOk X.prog X.w H s.heap a (.dK es) from I.hok a _ h)
    obtain ⟨rv, rk⟩ := pairs_keys (h := s.heap) h5 kv
    obtain ⟨as, e, g⟩ := DqAll.reads I q rv
    have hl : (es.map fun e => kD e.1).length = ds.length := by
      have := paired_len q.paired
      simpa using this
    refine ⟨a :: [] ++ as, .dict h1 h2.1 h3 (by rw [zip_fst hl]; exact rk) (by rw [zip_snd hl]; exact e), fun z hm => ?_⟩
    simp only [good, Bool.and_eq_true] at z
    rcases List.mem_cons.mp (show sysModules ∈ a :: as from hm) with e1 | e1
    · rw [← e1] at hsm
      simp at hsm
    · exact g (goodKv_vals hl z.2) e1
theorem DqAll.reads (I : Inv X pins σ H s) : ∀ {xs : List V} {ds : List PyData} {us : List Value}, DqAll X.K p H xs ds → Vals xs us → ∃ as, ReadsAll s.heap us ds as ∧ (goodAll false ds = true → sysModules ∉ as)
  | _, _, _, .nil, .nil => ⟨_, .nil, by simp⟩
  | _, _, _, .cons a q, .cons r rr => by
    obtain ⟨as, e1, g1⟩ := Dq.reads I a r
    obtain ⟨bs, e2, g2⟩ := DqAll.reads I q rr
    refine ⟨_, .cons e1 e2, fun z hm => ?_⟩
    simp only [goodAll, Bool.and_eq_true] at z
    rcases List.mem_append.mp hm with h | h
    · exact g1 z.1 h
    · exact g2 z.2 h
end
/-- repr(x): the text of the data -/
def rRepr (K : PySem.W.Frag) : List V → Hp → VK → Prop := fun xs H Q => ∃ p v d k, xs = [v] ∧ Dq K p H v d ∧ good k d = true ∧ wt d ≤ 1000000 ∧ d.depth ≤ 60 ∧ Q (.str d.shown) H
theorem call_reprD (hg : X.A.guards = some []) (hu : X.A.units + 64 < cLine) : CallR X (.builtin "repr") (rRepr X.K) := by
  intro pins s σ H xs us Q I r h
  obtain ⟨p, v, d, k, rfl, hd, hk, hw, hdp, q⟩ := h
  obtain ⟨u, rfl, ru⟩ := r.one
  obtain ⟨as, rd, hsm⟩ := hd.reads I ru
  have hsz : d.shown.length ≤ sizeLine := by
    have := shown_wt d hk
    have e := sizeLine_eq
    omega
  have hs := good_show d hk
  have fin : ∀ {t : Tok} {h' : Heap} {tk : Nat}, (∀ b o, s.heap.get? b = some o → h'.get? b = some o) → EP X pins σ Q (.str d.shown t) { s with heap := h', toks := tk } := fun kp => ⟨.str d.shown, H, I.kept kp, ⟨_, rfl⟩, q⟩
  have sm : d.hasDict = true → sysModules ∉ as := fun z => by
    cases k with
    | true => rw [good_nodict d hk] at z; cases z
    | false => exact hsm hk
  cases rd with
  | none => exact P.repr_of_none (fin fun _ _ e => e)
  | bool b => exact P.repr_of_bool (fin fun _ _ e => e)
  | int i t => exact P.repr_of_int (by simpa [PyData.showable] using hs) (fin fun _ _ e => e)
  | str x t => exact P.repr_of_str (fin fun _ _ e => e) (by simpa only [PyData.shown] using hsz)
  | list h1 h2 h3 h4 => exact repr_of_reads' (.list h1 h2 h3 h4) hs sm hg (by omega) (fun _ _ e => e) (fun h' u tk kp => fin kp) hsz
  | tuple h1 h2 h3 h4 => exact repr_of_reads' (.tuple h1 h2 h3 h4) hs sm hg (by omega) (fun _ _ e => e) (fun h' u tk kp => fin kp) hsz
  | dict h1 h2 h3 h4 h5 => exact repr_of_reads' (.dict h1 h2 h3 h4 h5) hs sm hg (by omega) (fun _ _ e => e) (fun h' u tk kp => fin kp) hsz
end
theorem k_repr {X : Cx} {K : PySem.W.Frag} (e : X.K = K) (hg : X.A.guards = some []) (hu : X.A.units + 64 < cLine) : CallR X (.builtin "repr") (rRepr K) := e ▸ call_reprD hg hu
end Fz
/-! ### texts, constants of the module, displays of dicts, calls by keywords alone -/
namespace Fz
open PySem PySem.Spec PyProof.Rows L2
section
variable {X : Cx} {x : Str} {pos : Pos}
theorem pe_gi {i : Int} (hg : Gl X x) (h : ∃ t, X.mg x = some (.int i t)) (hd : (x == ("__debug__" : Str)) = false := by decide) : PE X (.Name x pos) (tC (.int i)) := let ⟨t, e⟩ := h; pe_glob hg e ⟨t, rfl⟩ hd
theorem pe_gs {z : Str} (hg : Gl X x) (h : ∃ t, X.mg x = some (.str z t)) (hd : (x == ("__debug__" : Str)) = false := by decide) : PE X (.Name x pos) (tC (.str z)) := let ⟨t, e⟩ := h; pe_glob hg e ⟨t, rfl⟩ hd
def inS (i j : Str) : Bool := !(Builtin.Str.occurrences j i 0 j.length 1).isEmpty
def rInS : R2 := fun x y H Q => ∃ i j, x = .str i ∧ y = .str j ∧ Q (.bl (inS i j)) H
theorem op_inS : OpR X (compareOp .In) rInS := op_in_str
def rNotInS : R2 := fun x y H Q => ∃ i j, x = .str i ∧ y = .str j ∧ Q (.bl (!inS i j)) H
theorem op_notinS : OpR X (compareOp .NotIn) rNotInS := op_notin_str
def rJoin (K : PySem.W.Frag) : V → List V → Hp → VK → Prop := fun x xs H Q => ∃ a p, ∃ ys : List Str, x = .str a ∧ xs = [.ref p] ∧ (SqL K H p (ys.map V.str) ∨ SqT K H p (ys.map V.str)) ∧
    (ys.map (·.length)).sum + ys.length * a.length ≤ 16777216 ∧ Q (.str (Txt.join a ys)) H
theorem k_join {K : PySem.W.Frag} (e : X.K = K) : MtR X "str.join" (rJoin K) := e ▸ mt_join
def rCatTN (K : PySem.W.Frag) : R2 := fun x y H Q => ∃ a b xs zs, x = .ref a ∧ y = .ref b ∧ SqT K H a xs ∧ SqT K H b zs ∧ xs.length + zs.length ≤ sizeLine ∧ ∀ c H2, Same H H2 → SqT K H2 c (xs ++ zs) → Q (.ref c) H2
theorem k_catTN {K : PySem.W.Frag} (e : X.K = K) : OpR X (binaryOp .Add) (rCatTN K) := e ▸ OpR.le op_catA fun x y H Q ⟨a, b, xs, zs, e1, e2, h1, h2, hl, q⟩ => ⟨a, b, xs, zs, e1, e2, h1, h2, hl,
  fun z => q b H (Same.refl H) (by rw [z]; exact h2), fun _ z => q a H (Same.refl H) (by rw [z, List.append_nil]; exact h1), fun _ _ p n => q p _ (new_same n) (tof upd_same)⟩
def rRepTN (K : PySem.W.Frag) : R2 := fun x y H Q => ∃ l k xs, x = .ref l ∧ y = .int k ∧ SqT K H l xs ∧ xs ≠ [] ∧ 2 ≤ k ∧ k ≤ 1000 ∧ xs.length ≤ 1000 ∧ NewQ H (.tup (List.replicate k.toNat xs).flatten) Q
theorem k_repT {K : PySem.W.Frag} (e : X.K = K) : OpR X (binaryOp .Mult) (rRepTN K) := e ▸ OpR.le op_repT fun _ _ _ _ ⟨l, k, xs, e1, e2, h, n, a, b, c, q⟩ => ⟨l, k, xs, e1, e2, h, n, a, b, c, fun p n => q.at p n⟩
def tDisp1 (x : Str) (y : V) : TE := fun _ H Q => NewQ H (.dK [(Sum.inr x, y)]) Q
theorem pe_disp1 {k v : Expr} {z : Str} {y : V} (hk : PE X k (tC (.str z))) (hv : PE X v (tC y)) : PE X (.Dict [some k] [v] pos) (tDisp1 z y) :=
  PE.le (pe_disp (pps_cons hk hv pps_nil) rfl rfl (by simp) (by simp)) fun σ H Q h p n => by
    show (upd H p (.dK [])) p = some (.dK []) ∧ ∃ kvs : List (Key × V), [(V.str z, y)] = kvs.map (fun kv => (kV kv.1, kv.2)) ∧ kvs.length ≤ 15 ∧ Q (.ref p) (upd (upd H p (.dK [])) p (.dK (mergeK [] kvs)))
    refine ⟨upd_same, [(Sum.inr z, y)], rfl, by simp, ?_⟩
    rw [upd_upd]
    exact h.at p n
end
section
variable {X : Cx} {CX : CXT} {k n : Nat} {x : Str} {ps ks : List Str} {sp : Sp} {E : XK} {kws : List Keyword} {tk : TA} {p pos : Pos} {fd : FuncData} {gV : List V → List V → List V}
/-- f(k = v, ..) -/
theorem pe_ck0 (D : Dx X.prog X.w X.K X.mg X.base CX k x ps sp fd) (B : ∃ g, KBn X.K fd ps 0 ks g gV) (hr : RoomG k X.A) (hg : Gl X x) (hx : Passes CX X E)
    (hkw : PK X kws tk) (hall : (backToKw pos (keywordEach kws X.env)).all (·.1.isSome) = true := by rfl) (hks : (backToKw pos (keywordEach kws X.env)).filterMap (·.1) = ks := by rfl)
    (hdb : (x == ("__debug__" : Str)) = false := by decide)
    (hpl : ((backTo pos (starEach [] X.env)).any (·.1) || (backToKw pos (keywordEach kws X.env)).any (·.1.isNone)) = false := by rfl) :
    PE X (.Call (.Name x p) [] kws pos) (tCallN 0 ks.length sp gV E tNil tk) := by
  obtain ⟨g, hb⟩ := B
  refine ⟨fun pins s σ H Q I h => ?_⟩
  refine wpAny_Call_Name_kw (ld_glob I hg D.gl ?_ hdb)
  refine PySem.W.callWith_KW0 (h₀ := X.base) I.ok.mod.kin D.kp hall (thn (hkw.run pos pins s σ H _ I h) fun ws s2 ⟨zs, H2, I2, rz, l1, l2, q2⟩ => ⟨I2.kIn, ?_⟩) hpl
  rw [hks]
  exact run_any D.ok hr (hb.to s2 [] ws I2.kIn rfl (rz.length.symm.trans l2)) hx I2 (hb.rel .nil rz) q2
end
section
variable {K : PySem.W.Frag} {σ : L2.St} {H : Hp} {Q : VK} {te : TE} {g : TG} {vs : List Nat} {a b p : Addr} {xs zs : List V} {z y : Str}
theorem w_inS (h : Q (.bl (inS z y)) H) : rInS (.str z) (.str y) H Q := ⟨z, y, rfl, rfl, h⟩
theorem w_notinS (h : Q (.bl (!inS z y)) H) : rNotInS (.str z) (.str y) H Q := ⟨z, y, rfl, rfl, h⟩
theorem w_ixS {k : Int} {c : Nat} (hz : z.length ≤ sizeLine) (ha : atI z.cps.toList k = some c) (h : Q (.str ⟨#[c]⟩) H) : rIxS (.str z) (.int k) H Q := ⟨z, k, c, rfl, rfl, hz, ha, h⟩
theorem w_slS {lo hi : Option Int} (hz : z.length ≤ sizeLine) (h : Q (.str (cutS z lo hi)) H) : rSlS (.str z) lo hi H Q := ⟨z, rfl, hz, h⟩
theorem w_joinL {ys : List Str} (hs : SqL K H p (ys.map V.str)) (hz : (ys.map (·.length)).sum + ys.length * z.length ≤ 16777216) (h : Q (.str (Txt.join z ys)) H) : rJoin K (.str z) [.ref p] H Q := ⟨z, p, ys, rfl, rfl, .inl hs, hz, h⟩
theorem w_tyS {Z : Prop} (h : Z) : tyV K "str" (.str z) H ∧ Z := ⟨rfl, h⟩
theorem w_catT (h1 : SqT K H a xs) (h2 : SqT K H b zs) (hl : xs.length + zs.length ≤ sizeLine) (h : ∀ c H2, Same H H2 → SqT K H2 c (xs ++ zs) → Q (.ref c) H2) : rCatTN K (.ref a) (.ref b) H Q := ⟨a, b, xs, zs, rfl, rfl, h1, h2, hl, h⟩
theorem w_repT {k : Int} (h1 : SqT K H a xs) (n : xs ≠ []) (l : 2 ≤ k) (u : k ≤ 1000) (hl : xs.length ≤ 1000) (h : NewQ H (.tup (List.replicate k.toNat xs).flatten) Q) : rRepTN K (.ref a) (.int k) H Q := ⟨a, k, xs, rfl, rfl, h1, n, l, u, hl, h⟩
theorem w_istr {R : Str → Prop} (h : R z) : ∃ x, V.str z = .str x ∧ R x := ⟨z, rfl, h⟩
theorem w_istrU {R : It → Hp → Prop} (h : te σ H fun v H1 => ∃ x, v = .str x ∧ R (Its x) H1) : iStr te σ H R := h
theorem w_disp1 {v : V} (h : NewQ H (.dK [(Sum.inr z, v)]) Q) : tDisp1 z v σ H Q := h
/-- [te for c in text] -/
theorem lc_S (T : Nat → V → Hp → Prop) (m : Mon T) (hz : z.length ≤ 100000)
    (turn : ∀ i c H', z.cps.toList[i]? = some c → Same H H' → ∀ Q' : VK, (∀ v H2, Same H' H2 → T i v H2 → Q' v H2) → g (.str ⟨#[c]⟩) (wipe σ vs) H' fun σ2 H2 => wipe σ2 vs = wipe σ vs ∧ te σ2 H2 Q')
    (k : ∀ D H' acc, H D = none → Same H H' → H' D = some (.lst acc) → LcT T z.cps.toList.length acc H' → Q (.ref D) H') : ∃ x, V.str z = .str x ∧ LcEnd (Its x) g tYes te vs σ Q H := by
  refine ⟨z, rfl, fun D n => ?_⟩
  refine lc_it (walk_str (z := z)) (LcS H D T) (LcS.start n) (fun _ _ _ _ => trivial) (fun i x H1 H' hi h y => ?_) (fun H' ⟨acc, h1, h2, h3⟩ => k D H' acc n h2 h1 (by simpa using h3))
  obtain ⟨rfl, c, hc, rfl⟩ := y
  obtain ⟨_, _, s, _⟩ := id h
  have hs : z.cps.size = z.length := rfl
  exact turn i c H' (by simpa using hc) s _ fun v H2 s2 t => LcS.turn m n h (by omega) s2 t
end
end Fz
namespace Fz
open PySem L2
theorem ifP {c A B : Prop} [Decidable c] (hc : c) (h : A) : if c then A else B := by
  rw [if_pos hc]
  exact h
theorem ifN {c A B : Prop} [Decidable c] (hc : ¬ c) (h : B) : if c then A else B := by
  rw [if_neg hc]
  exact h
/-- a def that is called by place and by its names in their order -/
structure Dk (P : Program) (w : World) (K : PySem.W.Frag) (mg : Str → Option Value) (base : Heap) (CX : CXT) (k : Nat) (x : Str) (ps : List Str) (sp : Sp) : Prop where
  ex : ∃ fd, Dx P w K mg base CX k x ps sp fd ∧ Binds K fd ps [] ∧ ∃ g, KBn K fd ps 0 ps g (fun vs zs => vs ++ zs)
theorem Dk.df {P : Program} {w : World} {K : PySem.W.Frag} {mg : Str → Option Value} {base : Heap} {CX : CXT} {k : Nat} {x : Str} {ps : List Str} {sp : Sp} (D : Dk P w K mg base CX k x ps sp) : Df P w K mg base CX k x ps sp :=
  let ⟨fd, d, b, _⟩ := D.ex
  ⟨⟨fd, d.ok, b⟩, d.gl, d.kp⟩
end Fz
/-! ### data: their types, their lengths -/
namespace Fz
open PySem L2
section
variable {K : PySem.W.Frag} {H : Hp} {Q : VK} {p : Addr} {v : V} {d : PyData}
def tyN : PyData → String
  | .none => "NoneType" | .bool _ => "bool" | .int _ => "int" | .str _ => "str" | .list _ => "list" | .tuple _ => "tuple" | .dict _ => "dict"
theorem dq_ty (h : Dq K p H v d) : TyX K H v (.type (tyN d)) := by
  cases h with
  | non => exact .base .non
  | bl b => exact .base (.bl b)
  | int i => exact .base (.int i)
  | str x => exact .base (.str x)
  | lst _ h _ => exact ty_lst h
  | tup h _ => exact ty_tup h
  | dct _ h _ => exact .base (.dK h)
def isS : PyData → Bool
  | .str _ => true
  | _ => false
def isT : PyData → Bool
  | .tuple _ => true
  | _ => false
theorem kit_tuple_str' : kitB "tuple" "str" = some false := by decide +kernel
theorem w_isStr (h : Dq K p H v d) (q : Q (.bl (isS d)) H) : rIsi K [v, .ty "str"] H Q := by
  have t := dq_ty h
  cases d with
  | none => exact w_isi t kit_NoneType_str q
  | bool _ => exact w_isi t kit_bool_str q
  | int _ => exact w_isi t kit_int_str q
  | str _ => exact w_isi t kit_str_str q
  | list _ => exact w_isi t kit_list_str q
  | tuple _ => exact w_isi t kit_tuple_str' q
  | dict _ => exact w_isi t kit_dict_str q
theorem w_isTup (h : Dq K p H v d) (q : Q (.bl (isT d)) H) : rIsi K [v, .ty "tuple"] H Q := by
  have t := dq_ty h
  cases d with
  | none => exact w_isi t kit_NoneType_tuple q
  | bool _ => exact w_isi t kit_bool_tuple q
  | int _ => exact w_isi t kit_int_tuple q
  | str _ => exact w_isi t kit_str_tuple q
  | list _ => exact w_isi t kit_list_tuple q
  | tuple _ => exact w_isi t kit_tuple_tuple q
  | dict _ => exact w_isi t kit_dict_tuple q
end
/-! ### the bounds of data -/
def Lim (k : Bool) (w h : Nat) (d : PyData) : Prop := good k d = true ∧ wt d ≤ w ∧ d.depth ≤ h
theorem Lim.le {k : Bool} {w w' h h' : Nat} {d : PyData} (l : Lim k w h d) (a : w ≤ w') (b : h ≤ h') : Lim k w' h' d := ⟨l.1, Nat.le_trans l.2.1 a, Nat.le_trans l.2.2 b⟩
def Cps (x : Str) : Prop := ∀ c ∈ x.cps.toList, c < 16 ^ 8
theorem lim_str {k : Bool} {x : Str} {n : Nat} (l : x.length ≤ n) (c : Cps x) : Lim k (10 * n + 2) 0 (.str x) := by
  refine ⟨by simp only [good, List.all_eq_true, decide_eq_true_eq]; exact c, ?_, ?_⟩
  · simp only [wt]
    omega
  · simp only [PyData.depth]
    exact Nat.le_refl _
theorem goodAll_of {k : Bool} : ∀ {ds : List PyData}, (∀ d ∈ ds, good k d = true) → goodAll k ds = true
  | [], _ => by simp only [goodAll]
  | d :: ds, h => by
    simp only [goodAll, Bool.and_eq_true]
    exact ⟨h d (List.mem_cons_self ..), goodAll_of fun x hx => h x (List.mem_cons_of_mem _ hx)⟩
theorem wtAll_le {w : Nat} : ∀ {ds : List PyData}, (∀ d ∈ ds, wt d ≤ w) → wtAll ds ≤ ds.length * (w + 2)
  | [], _ => by simp only [wtAll]; exact Nat.zero_le _
  | d :: ds, h => by
    have h1 := h d (List.mem_cons_self ..)
    have h2 := wtAll_le (w := w) (ds := ds) fun x hx => h x (List.mem_cons_of_mem _ hx)
    simp only [wtAll, List.length_cons]
    rw [Nat.add_mul]
    omega
theorem depthAll_le {n : Nat} : ∀ {ds : List PyData}, (∀ d ∈ ds, d.depth ≤ n) → PyData.depthAll ds ≤ n
  | [], _ => by simp only [PyData.depthAll]; exact Nat.zero_le _
  | d :: ds, h => by
    simp only [PyData.depthAll]
    exact Nat.max_le.mpr ⟨h d (List.mem_cons_self ..), depthAll_le fun x hx => h x (List.mem_cons_of_mem _ hx)⟩
theorem lim_tup {k : Bool} {w h n : Nat} {ds : List PyData} (l : ∀ d ∈ ds, Lim k w h d) (hn : ds.length ≤ n) : Lim k (3 + n * (w + 2)) (h + 1) (.tuple ds) := by
  refine ⟨by simp only [good]; exact goodAll_of fun d hd => (l d hd).1, ?_, ?_⟩
  · have := wtAll_le fun d hd => (l d hd).2.1
    have h2 := Nat.mul_le_mul_right (w + 2) hn
    simp only [wt]
    omega
  · have := depthAll_le fun d hd => (l d hd).2.2
    simp only [PyData.depth]
    omega
theorem lim_list {w h n : Nat} {ds : List PyData} (l : ∀ d ∈ ds, Lim true w h d) (hn : ds.length ≤ n) : Lim true (3 + n * (w + 2)) (h + 1) (.list ds) := by
  refine ⟨by simp only [good, Bool.true_and]; exact goodAll_of fun d hd => (l d hd).1, ?_, ?_⟩
  · have := wtAll_le fun d hd => (l d hd).2.1
    have h2 := Nat.mul_le_mul_right (w + 2) hn
    simp only [wt]
    omega
  · have := depthAll_le fun d hd => (l d hd).2.2
    simp only [PyData.depth]
    omega
theorem wt_len {ds : List PyData} : 2 * ds.length ≤ wtAll ds := by
  induction ds with
  | nil => simp only [wtAll]; exact Nat.le_refl _
  | cons d ds ih => simp only [wtAll, List.length_cons]; omega
end Fz
namespace Fz
open PySem L2
def top (i : Nat) : Stmt := PySem.Challenge.pw_farfiles_k01_words_and_paths_of_any_kind.main.body.getD i (.Pass ⟨0, 0, 0, 0⟩)
abbrev s_is_word : Stmt := top 4
abbrev s_is_path : Stmt := top 5
abbrev s_law_purse : Stmt := top 7
abbrev s_law_take : Stmt := top 8
abbrev s_law_is_word : Stmt := top 9
abbrev s_law_is_path : Stmt := top 10
abbrev s_law_name : Stmt := top 11
abbrev s_law_bent : Stmt := top 12
abbrev s_law_odd : Stmt := top 13
abbrev s_law_way : Stmt := top 14
abbrev s_law_told : Stmt := top 15
abbrev s_law : Stmt := top 16
theorem sc_is_word : FnScope ["thing", "sign"] ["thing"] (defScope s_is_word) := ⟨rfl, rfl, rfl, by decide +kernel, rfl, by decide +kernel, by decide +kernel⟩
theorem sc_is_path : FnScope ["thing", "name"] ["thing"] (defScope s_is_path) := ⟨rfl, rfl, rfl, by decide +kernel, rfl, by decide +kernel, by decide +kernel⟩
theorem sc_law_purse : FnScope ["_law_script", "_law_k", "_law_cell"] ["_law_script", "_law_k"] (defScope s_law_purse) := ⟨rfl, rfl, rfl, by decide +kernel, rfl, by decide +kernel, by decide +kernel⟩
theorem sc_law_take : FnScope ["_law_purse_here", "_law_many", "_law_found"] ["_law_purse_here", "_law_many"] (defScope s_law_take) := ⟨rfl, rfl, rfl, by decide +kernel, rfl, by decide +kernel, by decide +kernel⟩
theorem sc_law_is_word : FnScope ["_law_matter", "_law_sign"] ["_law_matter"] (defScope s_law_is_word) := ⟨rfl, rfl, rfl, by decide +kernel, rfl, by decide +kernel, by decide +kernel⟩
theorem sc_law_is_path : FnScope ["_law_matter", "_law_name_here"] ["_law_matter"] (defScope s_law_is_path) := ⟨rfl, rfl, rfl, by decide +kernel, rfl, by decide +kernel, by decide +kernel⟩
theorem sc_law_name : FnScope ["_law_purse_here", "_law_some", "_law_letters", "_law_turn", "_law_own", "_law_letter"] ["_law_purse_here"] (defScope s_law_name) := ⟨rfl, rfl, rfl, by decide +kernel, rfl, by decide +kernel, by decide +kernel⟩
theorem sc_law_bent : FnScope ["_law_purse_here", "_law_name_here", "_law_at", "_law_way_here", "_law_signs", "_law_sign"] ["_law_purse_here", "_law_name_here"] (defScope s_law_bent) := ⟨rfl, rfl, rfl, by decide +kernel, rfl, by decide +kernel, by decide +kernel⟩
theorem sc_law_odd : FnScope ["_law_purse_here", "_law_some"] ["_law_purse_here"] (defScope s_law_odd) := ⟨rfl, rfl, rfl, by decide +kernel, rfl, by decide +kernel, by decide +kernel⟩
theorem sc_law_way : FnScope ["_law_purse_here", "_law_way_here", "_law_many", "_law_found", "_law_turn", "_law_at", "_law_odd_here", "_law_name_here"] ["_law_purse_here"] (defScope s_law_way) := ⟨rfl, rfl, rfl, by decide +kernel, rfl, by decide +kernel, by decide +kernel⟩
theorem sc_law_told : FnScope ["_law_matter", "_law_kept", "_law_due", "_law_told_here", "_law_one"] ["_law_matter"] (defScope s_law_told) := ⟨rfl, rfl, rfl, by decide +kernel, rfl, by decide +kernel, by decide +kernel⟩
theorem sc_law : FnScope ["_law_script", "_law_fixed", "_law_matter", "_law_k", "_law_purse_here", "_law_turn", "_law_name_here", "_law_way_here"] ["_law_script"] (defScope s_law) := ⟨rfl, rfl, rfl, by decide +kernel, rfl, by decide +kernel, by decide +kernel⟩
structure Md (K : PySem.W.Frag) (mg : Str → Option Value) : Prop where
  z_isinstance : mg "isinstance" = none
  z_bool : mg "bool" = none
  z_str : mg "str" = none
  z_tuple : mg "tuple" = none
  z_list : mg "list" = none
  z_len : mg "len" = none
  z_all : mg "all" = none
  z_min : mg "min" = none
  z_max : mg "max" = none
  z_range : mg "range" = none
  z_repr : mg "repr" = none
  c_LETTERS : ∃ t, mg "LETTERS" = some (.str "abcdefghijklmnopqrstuvwxyz" t)
  c_MOST_LETTERS : ∃ t, mg "MOST_LETTERS" = some (.int 8 t)
  c_MOST_NAMES : ∃ t, mg "MOST_NAMES" = some (.int 6 t)
  g_is_word : mg "is_word" = some (.ref (He.ga K "is_word"))
  d_is_word : ∃ fd, FunD K "is_word" "is_word" (defArgs s_is_word) (defBody s_is_word) (defScope s_is_word) [] [] (He.ga K "is_word") fd
  g_is_path : mg "is_path" = some (.ref (He.ga K "is_path"))
  d_is_path : ∃ fd, FunD K "is_path" "is_path" (defArgs s_is_path) (defBody s_is_path) (defScope s_is_path) [] [] (He.ga K "is_path") fd
  g_law_purse : mg "_law_purse" = some (.ref (He.ga K "_law_purse"))
  d_law_purse : ∃ fd, FunD K "_law_purse" "_law_purse" (defArgs s_law_purse) (defBody s_law_purse) (defScope s_law_purse) [] [] (He.ga K "_law_purse") fd
  g_law_take : mg "_law_take" = some (.ref (He.ga K "_law_take"))
  d_law_take : ∃ fd, FunD K "_law_take" "_law_take" (defArgs s_law_take) (defBody s_law_take) (defScope s_law_take) [] [] (He.ga K "_law_take") fd
  g_law_is_word : mg "_law_is_word" = some (.ref (He.ga K "_law_is_word"))
  d_law_is_word : ∃ fd, FunD K "_law_is_word" "_law_is_word" (defArgs s_law_is_word) (defBody s_law_is_word) (defScope s_law_is_word) [] [] (He.ga K "_law_is_word") fd
  g_law_is_path : mg "_law_is_path" = some (.ref (He.ga K "_law_is_path"))
  d_law_is_path : ∃ fd, FunD K "_law_is_path" "_law_is_path" (defArgs s_law_is_path) (defBody s_law_is_path) (defScope s_law_is_path) [] [] (He.ga K "_law_is_path") fd
  g_law_name : mg "_law_name" = some (.ref (He.ga K "_law_name"))
  d_law_name : ∃ fd, FunD K "_law_name" "_law_name" (defArgs s_law_name) (defBody s_law_name) (defScope s_law_name) [] [] (He.ga K "_law_name") fd
  g_law_bent : mg "_law_bent" = some (.ref (He.ga K "_law_bent"))
  d_law_bent : ∃ fd, FunD K "_law_bent" "_law_bent" (defArgs s_law_bent) (defBody s_law_bent) (defScope s_law_bent) [] [] (He.ga K "_law_bent") fd
  g_law_odd : mg "_law_odd" = some (.ref (He.ga K "_law_odd"))
  d_law_odd : ∃ fd, FunD K "_law_odd" "_law_odd" (defArgs s_law_odd) (defBody s_law_odd) (defScope s_law_odd) [] [] (He.ga K "_law_odd") fd
  g_law_way : mg "_law_way" = some (.ref (He.ga K "_law_way"))
  d_law_way : ∃ fd, FunD K "_law_way" "_law_way" (defArgs s_law_way) (defBody s_law_way) (defScope s_law_way) [] [] (He.ga K "_law_way") fd
  g_law_told : mg "_law_told" = some (.ref (He.ga K "_law_told"))
  d_law_told : ∃ fd, FunD K "_law_told" "_law_told" (defArgs s_law_told) (defBody s_law_told) (defScope s_law_told) [] [] (He.ga K "_law_told") fd
  g_law : mg "law" = some (.ref (He.ga K "law"))
  d_law : ∃ fd, FunD K "law" "law" (defArgs s_law) (defBody s_law) (defScope s_law) [] [] (He.ga K "law") fd
end Fz
/-! ### the walk's own turns (local rules at keys of our own) -/
open PySem L2 Fz
/-! a fact of the heap as it stands, back along the heaps -/
local macro_rules | `(tactic| walk_at "hf") => `(tactic| repeat (first
  | assumption
  | with_reducible exact lof (by assumption)
  | with_reducible exact tof (by assumption)
  | with_reducible refine same_tup (by assumption) ?_
  | with_reducible refine Same.seq (by assumption) ?_
  | with_reducible refine Tu.tup (But.tu (by assumption) (by assumption)) ?_
  | with_reducible refine Tu.tup (Go.tu (by assumption)) ?_
  | with_reducible refine Tu.tup (by assumption) ?_
  | with_reducible refine ‹Same _ _› _ _ ?_))
local macro_rules | `(tactic| walk_at "go1") => `(tactic| first
  | with_reducible refine w_var (by with_unfolding_all rfl) ?_
  | with_reducible refine w_c ?_
  | with_reducible refine w_seq ?_
  | with_reducible refine w_asg ?_
  | with_reducible refine w_name ?_
  | with_reducible refine w_op ?_
  | with_reducible refine w_cons ?_
  | with_reducible refine w_nil ?_
  | with_reducible refine w_cb ?_
  | with_reducible refine w_call ?_
  | with_reducible refine w_ret ?_
  | with_reducible refine w_callN ?_
  | with_reducible refine w_lens (by with_unfolding_all rfl) (by with_unfolding_all rfl) ?_
  | with_reducible refine w_ifs ?_
  | with_reducible refine w_test ?_
  | with_reducible refine w_tb ?_
  | with_reducible refine w_bl ?_
  | with_reducible refine w_I0 ?_
  | with_reducible refine w_eqI ?_
  | with_reducible refine w_neI ?_
  | with_reducible refine w_eqS ?_
  | with_reducible refine w_neS ?_
  | with_reducible refine w_eqB ?_
  | with_reducible refine w_drop ?_
  | with_reducible refine w_and ?_
  | with_reducible refine w_or ?_
  | with_reducible refine w_not ?_
  | with_reducible refine w_andV ?_
  | with_reducible refine w_orV ?_
  | with_reducible refine w_notV ?_
  | with_reducible refine w_un ?_
  | with_reducible refine w_U ?_
  | with_reducible refine w_ifE ?_
  | with_reducible refine w_chain ?_
  | with_reducible refine w_tup ?_
  | with_reducible refine w_lst ?_
  | with_reducible refine w_parS ?_
  | with_reducible refine w_par ?_
  | with_reducible refine w_par3S ?_
  | with_reducible refine w_par3 ?_
  | with_reducible refine w_aug (by with_unfolding_all rfl) ?_
  | with_reducible refine w_ipI ?_
  | with_reducible refine w_gnil ?_
  | with_reducible refine w_gcons ?_
  | with_reducible refine w_gsub ?_
  | with_reducible refine w_sl ?_
  | with_reducible refine w_part ?_
  | with_reducible refine w_int ?_
  | with_reducible refine w_nopart ?_
  | with_reducible refine w_bm ?_
  | with_reducible refine w_max ?_
  | with_reducible refine w_isN ?_
  | with_reducible refine w_sz (by with_unfolding_all rfl) ?_
  | with_reducible refine w_next ?_
  | with_reducible refine w_rng1 ?_
  | with_reducible refine w_dnew ?_
  | with_reducible refine w_dgetU ?_
  | with_reducible refine w_dget2 ?_
  | with_reducible refine w_isD (by assumption) ?_
  | with_reducible refine w_dput ?_
  | with_reducible refine w_lenD (by assumption) ?_
  | with_reducible refine w_listD (by assumption) ?_
  | with_reducible refine w_revU ?_
  | with_reducible refine w_slT (by assumption) ?_
  | with_reducible refine w_slT (tof (by assumption)) ?_
  | with_reducible refine w_rng2 ?_
  | with_reducible refine w_ilist ?_
  | with_reducible refine w_itup ?_
  | with_reducible refine w_isi (.base (.int _)) kit_int_int ?_
  | with_reducible refine w_isi (.base (.int _)) kit_int_bool ?_
  | with_reducible refine w_isi (.base (.int _)) kit_int_str ?_
  | with_reducible refine w_isi (.base (.int _)) kit_int_tuple ?_
  | with_reducible refine w_isi (.base (.bl _)) kit_bool_int ?_
  | with_reducible refine w_isi (.base (.bl _)) kit_bool_bool ?_
  | with_reducible refine w_isi (.base (.bl _)) kit_bool_str ?_
  | with_reducible refine w_isi (.base (.bl _)) kit_bool_tuple ?_
  | with_reducible refine w_isi (.base (.str _)) kit_str_int ?_
  | with_reducible refine w_isi (.base (.str _)) kit_str_bool ?_
  | with_reducible refine w_isi (.base (.str _)) kit_str_str ?_
  | with_reducible refine w_isi (.base (.str _)) kit_str_tuple ?_
  | with_reducible refine w_isi (.base .non) kit_NoneType_int ?_
  | with_reducible refine w_isi (.base .non) kit_NoneType_bool ?_
  | with_reducible refine w_isi (.base .non) kit_NoneType_str ?_
  | with_reducible refine w_isi (.base .non) kit_NoneType_tuple ?_
  | with_reducible refine w_isi (ty_tup (by assumption)) kit_tuple_tuple ?_
  | with_reducible refine w_isi (ty_tup (tof (by assumption))) kit_tuple_tuple ?_
  | with_reducible refine w_gtup (by assumption) (by with_unfolding_all rfl) ?_
  | with_reducible refine w_gtup (tof (by assumption)) (by with_unfolding_all rfl) ?_
  | with_reducible refine w_lenL (by assumption) ?_
  | with_reducible refine w_lenL (lof (by assumption)) ?_
  | with_reducible refine w_lenT (by assumption) ?_
  | with_reducible refine w_lenT (tof (by assumption)) ?_
  | with_reducible refine w_ixL (by assumption) (by with_unfolding_all rfl) ?_
  | with_reducible refine w_ixL (lof (by assumption)) (by with_unfolding_all rfl) ?_
  | with_reducible refine w_ixT (by assumption) (by with_unfolding_all rfl) ?_
  | with_reducible refine w_ixT (tof (by assumption)) (by with_unfolding_all rfl) ?_
  | with_reducible refine w_tyL (by assumption) ?_
  | with_reducible refine w_tyL (lof (by assumption)) ?_
  | with_reducible refine w_setL (by assumption) (by with_unfolding_all rfl) ?_
  | with_reducible refine w_slL (by assumption) ?_
  | with_reducible refine w_slL (lof (by assumption)) ?_
  | with_reducible refine w_tuple (lof (by assumption)) ?_
  | with_reducible refine w_listT (by assumption) ?_
  | with_reducible refine w_listT (tof (by assumption)) ?_
  | with_reducible refine w_min ?_
  | with_reducible refine w_notN ?_
  | with_reducible refine w_isB ?_
  | with_reducible refine w_isnB ?_
  | with_reducible refine w_cont ?_
  | with_reducible refine w_inS ?_
  | with_reducible refine w_notinS ?_
  | with_reducible refine w_tyS ?_
  | with_reducible refine w_disp1 ?_
  | with_reducible refine w_istrU ?_
  | with_reducible refine iteT ?_
  | with_reducible refine iteF ?_
  | with_reducible refine w_nT ?_
  | with_reducible refine w_nF ?_
  | with_reducible refine w_enx ?_
  | with_reducible refine w_ert ?_
  | with_reducible refine w_ect ?_
  | with_reducible refine w_ebk ?_)
local macro_rules | `(tactic| walk_at "go") => `(tactic| repeat (walk_at "go1"))
/-! ### words and paths -/
namespace Fz
open PySem L2
section
variable {P : Program} {w : World} {K : PySem.W.Frag} {mg : Str → Option Value} {base : Heap}
def LET : Str := "abcdefghijklmnopqrstuvwxyz"
def inL (c : Nat) : Bool := inS ⟨#[c]⟩ LET
def isWord : PyData → Bool
  | .str x => decide (1 ≤ x.length) && (decide (x.length ≤ 8) && x.cps.toList.all inL)
  | _ => false
def isPath : PyData → Bool
  | .tuple ds => decide (ds.length ≤ 6) && ds.all isWord
  | _ => false
def spIsWord (K : PySem.W.Frag) : Sp := fun vs H Q _ => ∃ p v d, vs = [v] ∧ Dq K p H v d ∧ wt d ≤ 100000 ∧ ∀ H', Same H H' → Q (.bl (isWord d)) H'
def spIsPath (K : PySem.W.Frag) : Sp := fun vs H Q _ => ∃ p v d, vs = [v] ∧ Dq K p H v d ∧ wt d ≤ 100000 ∧ ∀ H', Same H H' → Q (.bl (isPath d)) H'
theorem wt_mem {d : PyData} : ∀ {ds : List PyData}, d ∈ ds → wt d ≤ wtAll ds
  | x :: xs, h => by
    simp only [wtAll]
    rcases List.mem_cons.mp h with rfl | h
    · omega
    · have := wt_mem h
      omega
theorem ok_is_word (M : Md K mg) : Dk P w K mg base CX0 1 "is_word" ["thing"] (spIsWord K) := by
  obtain ⟨fd, F⟩ := M.d_is_word
  refine ⟨fd, ⟨F.okG sc_is_word (fun vs H Q E h => ?_) (fun cdv A outer s H vs Q E hr h => ?_), M.g_is_word, F.kp⟩, F.bindsN fun _ _ _ _ _ _ us hl => match us, hl with | [_], _ => rfl,
    kbn_of F 0 ["thing"] (fun vs zs => vs ++ zs) (fun r1 r2 => r1.append r2) fun kV doc pm an cdv ct us ws l1 l2 => match us, ws, l1, l2 with | [], [_], _, _ => rfl⟩
  · obtain ⟨p, v, d, rfl, _⟩ := h
    rfl
  · obtain ⟨p, v, d, rfl, hd, hw, k⟩ := h
    refine ⟨_, PSs.nox (pss_cons (ps_if (PW.pt (pw_or (pt_not (pt_val (pe_callB (k_isi (K := K) rfl) (by rfl) M.z_isinstance bt_isinstance (pa_cons (pv 0) (pa_cons (pe_bltn (v := .ty "str") (by rfl) M.z_str bt_str rfl) pa_nil))))) (pw_or1 (pt_not (pt_chain op_le op_le pe_int (pe_callB (k_len (K := K) rfl) (by rfl) M.z_len bt_len (pa_cons (pv 0) pa_nil)) (pe_gi (by rfl) M.c_MOST_LETTERS))))))
 (pss_one (ps_ret pe_bl))
 pss_nil)
 (pss_one (ps_ret (pe_callB (k_all (K := K) rfl rfl) (by rfl) M.z_all bt_all (pa_cons (pe_lc (own := [("sign", 1)]) (g := (gName 1)) rfl sc_is_word.nd (pi_str (pv 0)) (blkOk_by (own := [("sign", 1)]) (N := ["thing", "sign"]) (sc := defScope s_is_word) (by decide +kernel)) (fun _ _ _ _ _ => (pg_name (i := 1) sc_is_word.nd rfl (Or.inl rfl))) (fun _ _ _ _ _ => pts_nil) (fun _ _ _ _ _ => (pe_cmpR op_inS (pv 1) (pe_gs (by rfl) M.c_LETTERS) (by rfl)))) pa_nil))))), ?_⟩
    try dsimp only [cxOf, Cx.nox]
    walk_at "go"
    refine w_isStr hd ?_
    cases hd with
    | str x =>
      have hx : x.length ≤ sizeLine := by
        simp only [wt] at hw
        have := sizeLine_eq
        omega
      have hx2 : x.length ≤ 100000 := by
        simp only [wt] at hw
        omega
      walk_at "go"
      refine ifN (by simp [isS]) ?_
      walk_at "go"
      refine w_lenS hx ?_
      walk_at "go"
      refine ite2 (fun e => ?_) (fun e => ?_)
      · walk_at "go"
        refine ite2 (fun e2 => ?_) (fun e2 => ?_)
        · have ew : isWord (.str x) = false := by
            have e2 : ¬ x.length ≤ 8 := by
              have e2 : (8 : Int) < x.length := by simpa using e2
              omega
            simp only [isWord, decide_eq_false e2, Bool.false_and, Bool.and_false]
          walk_at "go"
          rw [← ew]
          exact k _ (Same.refl _)
        · have e2 : x.length ≤ 8 := by
            have e2 : (x.length : Int) ≤ 8 := by simpa using e2
            omega
          have e : 1 ≤ x.length := by
            have e : (1 : Int) ≤ x.length := by simpa using e
            omega
          walk_at "go"
          refine w_lc ?_
          walk_at "go"
          refine lc_S (fun i v _ => ∃ c, x.cps.toList[i]? = some c ∧ v = .bl (inL c)) (fun _ _ _ _ h _ => h) hx2 (fun i c H1 hi s1 Q' q => ?_) (fun D H1 acc n s1 hD hT => ?_)
          · walk_at "go"
            refine ⟨by rfl, ?_⟩
            walk_at "go"
            exact q _ _ (Same.refl _) ⟨c, hi, rfl⟩
          · have ea : acc = (x.cps.toList).map (fun c => V.bl (inL c)) := LcT.mapL hT
            have ea : acc = ((x.cps.toList).map inL).map V.bl := by rw [ea, List.map_map]; rfl
            rw [ea] at hD
            walk_at "go"
            refine w_all (lof hD) ?_
            have ew : isWord (.str x) = ((x.cps.toList).map inL).all id := by
              simp only [isWord, decide_eq_true e, decide_eq_true e2, Bool.true_and, List.all_map]
              rfl
            rw [← ew]
            exact k _ s1
      · have ew : isWord (.str x) = false := by
          have e : ¬ 1 ≤ x.length := by
            have e : ¬ (1 : Int) ≤ x.length := by simpa using e
            omega
          simp only [isWord, decide_eq_false e, Bool.false_and]
        walk_at "go"
        rw [← ew]
        exact k _ (Same.refl _)
    | _ =>
      walk_at "go"
      refine ifP (by simp [isS]) ?_
      walk_at "go"
      exact k _ (Same.refl _)
theorem ok_law_is_word (M : Md K mg) : Dk P w K mg base CX0 1 "_law_is_word" ["_law_matter"] (spIsWord K) := by
  obtain ⟨fd, F⟩ := M.d_law_is_word
  refine ⟨fd, ⟨F.okG sc_law_is_word (fun vs H Q E h => ?_) (fun cdv A outer s H vs Q E hr h => ?_), M.g_law_is_word, F.kp⟩, F.bindsN fun _ _ _ _ _ _ us hl => match us, hl with | [_], _ => rfl,
    kbn_of F 0 ["_law_matter"] (fun vs zs => vs ++ zs) (fun r1 r2 => r1.append r2) fun kV doc pm an cdv ct us ws l1 l2 => match us, ws, l1, l2 with | [], [_], _, _ => rfl⟩
  · obtain ⟨p, v, d, rfl, _⟩ := h
    rfl
  · obtain ⟨p, v, d, rfl, hd, hw, k⟩ := h
    refine ⟨_, PSs.nox (pss_cons (ps_if (PW.pt (pw_or (pt_not (pt_val (pe_callB (k_isi (K := K) rfl) (by rfl) M.z_isinstance bt_isinstance (pa_cons (pv 0) (pa_cons (pe_bltn (v := .ty "str") (by rfl) M.z_str bt_str rfl) pa_nil))))) (pw_or1 (pt_not (pt_chain op_le op_le pe_int (pe_callB (k_len (K := K) rfl) (by rfl) M.z_len bt_len (pa_cons (pv 0) pa_nil)) pe_int)))))
 (pss_one (ps_ret pe_bl))
 pss_nil)
 (pss_one (ps_ret (pe_callB (k_all (K := K) rfl rfl) (by rfl) M.z_all bt_all (pa_cons (pe_lc (own := [("_law_sign", 1)]) (g := (gName 1)) rfl sc_law_is_word.nd (pi_str (pv 0)) (blkOk_by (own := [("_law_sign", 1)]) (N := ["_law_matter", "_law_sign"]) (sc := defScope s_law_is_word) (by decide +kernel)) (fun _ _ _ _ _ => (pg_name (i := 1) sc_law_is_word.nd rfl (Or.inl rfl))) (fun _ _ _ _ _ => pts_nil) (fun _ _ _ _ _ => (pe_cmpR op_inS (pv 1) pe_str (by rfl)))) pa_nil))))), ?_⟩
    try dsimp only [cxOf, Cx.nox]
    walk_at "go"
    refine w_isStr hd ?_
    cases hd with
    | str x =>
      have hx : x.length ≤ sizeLine := by
        simp only [wt] at hw
        have := sizeLine_eq
        omega
      have hx2 : x.length ≤ 100000 := by
        simp only [wt] at hw
        omega
      walk_at "go"
      refine ifN (by simp [isS]) ?_
      walk_at "go"
      refine w_lenS hx ?_
      walk_at "go"
      refine ite2 (fun e => ?_) (fun e => ?_)
      · walk_at "go"
        refine ite2 (fun e2 => ?_) (fun e2 => ?_)
        · have ew : isWord (.str x) = false := by
            have e2 : ¬ x.length ≤ 8 := by
              have e2 : (8 : Int) < x.length := by simpa using e2
              omega
            simp only [isWord, decide_eq_false e2, Bool.false_and, Bool.and_false]
          walk_at "go"
          rw [← ew]
          exact k _ (Same.refl _)
        · have e2 : x.length ≤ 8 := by
            have e2 : (x.length : Int) ≤ 8 := by simpa using e2
            omega
          have e : 1 ≤ x.length := by
            have e : (1 : Int) ≤ x.length := by simpa using e
            omega
          walk_at "go"
          refine w_lc ?_
          walk_at "go"
          refine lc_S (fun i v _ => ∃ c, x.cps.toList[i]? = some c ∧ v = .bl (inL c)) (fun _ _ _ _ h _ => h) hx2 (fun i c H1 hi s1 Q' q => ?_) (fun D H1 acc n s1 hD hT => ?_)
          · walk_at "go"
            refine ⟨by rfl, ?_⟩
            walk_at "go"
            exact q _ _ (Same.refl _) ⟨c, hi, rfl⟩
          · have ea : acc = (x.cps.toList).map (fun c => V.bl (inL c)) := LcT.mapL hT
            have ea : acc = ((x.cps.toList).map inL).map V.bl := by rw [ea, List.map_map]; rfl
            rw [ea] at hD
            walk_at "go"
            refine w_all (lof hD) ?_
            have ew : isWord (.str x) = ((x.cps.toList).map inL).all id := by
              simp only [isWord, decide_eq_true e, decide_eq_true e2, Bool.true_and, List.all_map]
              rfl
            rw [← ew]
            exact k _ s1
      · have ew : isWord (.str x) = false := by
          have e : ¬ 1 ≤ x.length := by
            have e : ¬ (1 : Int) ≤ x.length := by simpa using e
            omega
          simp only [isWord, decide_eq_false e, Bool.false_and]
        walk_at "go"
        rw [← ew]
        exact k _ (Same.refl _)
    | _ =>
      walk_at "go"
      refine ifP (by simp [isS]) ?_
      walk_at "go"
      exact k _ (Same.refl _)
end
end Fz
/-! ### words and paths -/
namespace Fz
open PySem L2
section
variable {P : Program} {w : World} {K : PySem.W.Frag} {mg : Str → Option Value} {base : Heap}
theorem ok_is_path (M : Md K mg) : Dk P w K mg base CX0 2 "is_path" ["thing"] (spIsPath K) := by
  have D_is_word := (ok_is_word (P := P) (w := w) (base := base) M).df
  obtain ⟨fd, F⟩ := M.d_is_path
  refine ⟨fd, ⟨F.okG sc_is_path (fun vs H Q E h => ?_) (fun cdv A outer s H vs Q E hr h => ?_), M.g_is_path, F.kp⟩, F.bindsN fun _ _ _ _ _ _ us hl => match us, hl with | [_], _ => rfl,
    kbn_of F 0 ["thing"] (fun vs zs => vs ++ zs) (fun r1 r2 => r1.append r2) fun kV doc pm an cdv ct us ws l1 l2 => match us, ws, l1, l2 with | [], [_], _, _ => rfl⟩
  · obtain ⟨p, v, d, rfl, _⟩ := h
    rfl
  · obtain ⟨p, v, d, rfl, hd, hw, k⟩ := h
    refine ⟨_, PSs.nox (pss_one (ps_ret (pe_and (pe_callB (k_isi (K := K) rfl) (by rfl) M.z_isinstance bt_isinstance (pa_cons (pv 0) (pa_cons (pe_bltn (v := .ty "tuple") (by rfl) M.z_tuple bt_tuple rfl) pa_nil))) (pe_and (pe_cmpR op_le (pe_callB (k_len (K := K) rfl) (by rfl) M.z_len bt_len (pa_cons (pv 0) pa_nil)) (pe_gi (by rfl) M.c_MOST_NAMES) (nomark _)) (pe_one (pe_callB (k_all (K := K) rfl rfl) (by rfl) M.z_all bt_all (pa_cons (pe_lc (own := [("name", 1)]) (g := (gName 1)) rfl sc_is_path.nd (k_itup (K := K) rfl (pv 0)) (blkOk_by (own := [("name", 1)]) (N := ["thing", "name"]) (sc := defScope s_is_path) (by decide +kernel)) (fun _ _ _ _ _ => (pg_name (i := 1) sc_is_path.nd rfl (Or.inl rfl))) (fun _ _ _ _ _ => pts_nil) (fun _ _ _ _ _ => (pe_cl D_is_word (hr.mono (by decide)) (by rfl) pass0 (pa_cons (pv 1) pa_nil)))) pa_nil))))))), ?_⟩
    try dsimp only [cxOf, Cx.nox]
    walk_at "go"
    refine w_isTup hd ?_
    cases hd with
    | @tup a xs ds hs ha =>
      have hp := ha.paired
      have hl := paired_len hp
      have hw2 : wtAll ds ≤ 100000 := by
        simp only [wt] at hw
        omega
      have hz : xs.length ≤ 100000 := by
        have := wt_len (ds := ds)
        omega
      walk_at "go"
      refine ifP (by simp [isT]) ?_
      walk_at "go"
      refine ite2 (fun e => ?_) (fun e => ?_)
      · have e : ds.length ≤ 6 := by
          have e : (xs.length : Int) ≤ 6 := by simpa using e
          omega
        walk_at "go"
        refine w_lc ?_
        walk_at "go"
        refine lc_T (K := K) (a := a) (fun i v _ => ∃ d, ds[i]? = some d ∧ v = .bl (isWord d)) (fun _ _ _ _ h _ => h) hs hz (fun i x H1 hi s1 Q' q => ?_) (fun D H1 acc n s1 hD hT => ?_)
        · obtain ⟨d, hd, hq⟩ := paired_get hp hi
          walk_at "go"
          refine ⟨by rfl, ?_⟩
          walk_at "go"
          refine ⟨p, x, d, rfl, hq.same s1, Nat.le_trans (wt_mem (List.mem_of_getElem? hd)) hw2, fun H2 s2 => ?_⟩
          exact q _ _ s2 ⟨d, hd, rfl⟩
        · rw [hl] at hT
          have ea : acc = ds.map (fun d => V.bl (isWord d)) := LcT.mapL hT
          have ea : acc = (ds.map isWord).map V.bl := by rw [ea, List.map_map]; rfl
          rw [ea] at hD
          walk_at "go"
          refine w_all (lof hD) ?_
          have ew : isPath (.tuple ds) = (ds.map isWord).all id := by
            simp only [isPath, decide_eq_true e, Bool.true_and, List.all_map]
            rfl
          rw [← ew]
          exact k _ s1
      · have ew : isPath (.tuple ds) = false := by
          have e : ¬ ds.length ≤ 6 := by
            have e : ¬ (xs.length : Int) ≤ 6 := by simpa using e
            omega
          simp only [isPath, decide_eq_false e, Bool.false_and]
        walk_at "go"
        rw [← ew]
        exact k _ (Same.refl _)
    | _ =>
      walk_at "go"
      refine ifN (by simp [isT]) ?_
      walk_at "go"
      exact k _ (Same.refl _)
theorem ok_law_is_path (M : Md K mg) : Dk P w K mg base CX0 2 "_law_is_path" ["_law_matter"] (spIsPath K) := by
  have D__law_is_word := (ok_law_is_word (P := P) (w := w) (base := base) M).df
  obtain ⟨fd, F⟩ := M.d_law_is_path
  refine ⟨fd, ⟨F.okG sc_law_is_path (fun vs H Q E h => ?_) (fun cdv A outer s H vs Q E hr h => ?_), M.g_law_is_path, F.kp⟩, F.bindsN fun _ _ _ _ _ _ us hl => match us, hl with | [_], _ => rfl,
    kbn_of F 0 ["_law_matter"] (fun vs zs => vs ++ zs) (fun r1 r2 => r1.append r2) fun kV doc pm an cdv ct us ws l1 l2 => match us, ws, l1, l2 with | [], [_], _, _ => rfl⟩
  · obtain ⟨p, v, d, rfl, _⟩ := h
    rfl
  · obtain ⟨p, v, d, rfl, hd, hw, k⟩ := h
    refine ⟨_, PSs.nox (pss_one (ps_ret (pe_and (pe_callB (k_isi (K := K) rfl) (by rfl) M.z_isinstance bt_isinstance (pa_cons (pv 0) (pa_cons (pe_bltn (v := .ty "tuple") (by rfl) M.z_tuple bt_tuple rfl) pa_nil))) (pe_and (pe_cmpR op_lt (pe_callB (k_len (K := K) rfl) (by rfl) M.z_len bt_len (pa_cons (pv 0) pa_nil)) pe_int (nomark _)) (pe_one (pe_callB (k_all (K := K) rfl rfl) (by rfl) M.z_all bt_all (pa_cons (pe_lc (own := [("_law_name_here", 1)]) (g := (gName 1)) rfl sc_law_is_path.nd (k_itup (K := K) rfl (pv 0)) (blkOk_by (own := [("_law_name_here", 1)]) (N := ["_law_matter", "_law_name_here"]) (sc := defScope s_law_is_path) (by decide +kernel)) (fun _ _ _ _ _ => (pg_name (i := 1) sc_law_is_path.nd rfl (Or.inl rfl))) (fun _ _ _ _ _ => pts_nil) (fun _ _ _ _ _ => (pe_cl D__law_is_word (hr.mono (by decide)) (by rfl) pass0 (pa_cons (pv 1) pa_nil)))) pa_nil))))))), ?_⟩
    try dsimp only [cxOf, Cx.nox]
    walk_at "go"
    refine w_isTup hd ?_
    cases hd with
    | @tup a xs ds hs ha =>
      have hp := ha.paired
      have hl := paired_len hp
      have hw2 : wtAll ds ≤ 100000 := by
        simp only [wt] at hw
        omega
      have hz : xs.length ≤ 100000 := by
        have := wt_len (ds := ds)
        omega
      walk_at "go"
      refine ifP (by simp [isT]) ?_
      walk_at "go"
      refine ite2 (fun e => ?_) (fun e => ?_)
      · have e : ds.length ≤ 6 := by
          have e : (xs.length : Int) < 7 := by simpa using e
          omega
        walk_at "go"
        refine w_lc ?_
        walk_at "go"
        refine lc_T (K := K) (a := a) (fun i v _ => ∃ d, ds[i]? = some d ∧ v = .bl (isWord d)) (fun _ _ _ _ h _ => h) hs hz (fun i x H1 hi s1 Q' q => ?_) (fun D H1 acc n s1 hD hT => ?_)
        · obtain ⟨d, hd, hq⟩ := paired_get hp hi
          walk_at "go"
          refine ⟨by rfl, ?_⟩
          walk_at "go"
          refine ⟨p, x, d, rfl, hq.same s1, Nat.le_trans (wt_mem (List.mem_of_getElem? hd)) hw2, fun H2 s2 => ?_⟩
          exact q _ _ s2 ⟨d, hd, rfl⟩
        · rw [hl] at hT
          have ea : acc = ds.map (fun d => V.bl (isWord d)) := LcT.mapL hT
          have ea : acc = (ds.map isWord).map V.bl := by rw [ea, List.map_map]; rfl
          rw [ea] at hD
          walk_at "go"
          refine w_all (lof hD) ?_
          have ew : isPath (.tuple ds) = (ds.map isWord).all id := by
            simp only [isPath, decide_eq_true e, Bool.true_and, List.all_map]
            rfl
          rw [← ew]
          exact k _ s1
      · have ew : isPath (.tuple ds) = false := by
          have e : ¬ ds.length ≤ 6 := by
            have e : ¬ (xs.length : Int) < 7 := by simpa using e
            omega
          simp only [isPath, decide_eq_false e, Bool.false_and]
        walk_at "go"
        rw [← ew]
        exact k _ (Same.refl _)
    | _ =>
      walk_at "go"
      refine ifN (by simp [isT]) ?_
      walk_at "go"
      exact k _ (Same.refl _)
end
end Fz
/-! ### law k01: what is told of a thing -/
namespace Fz
open PySem L2
section
variable {P : Program} {w : World} {K : PySem.W.Frag} {mg : Str → Option Value} {base : Heap}
def spTold (K : PySem.W.Frag) : Sp := fun vs H Q _ => ∃ p v d k, vs = [v] ∧ Dq K p H v d ∧ Lim k 100000 50 d ∧ ∀ H', Same H H' → Q (.bl true) H'
theorem ne_bools {H : Hp} {Q : VK} {a b : Addr} {x y : Bool} (h1 : SqL K H a [.bl x, .bl y]) (h2 : SqL K H b [.bl x, .bl y]) (h : Q (.bl false) H) : rNeD K (.ref a) (.ref b) H Q :=
  w_neD (d := .list [.bool x, .bool y]) (e := .list [.bool x, .bool y]) (.lst h1 (.cons (.bl x) (.cons (.bl y) .nil))) (.lst h2 (.cons (.bl x) (.cons (.bl y) .nil)))
    (by cases x <;> cases y <;> decide) (by cases x <;> cases y <;> decide) (by
      have e : PyData.eqv (.list [.bool x, .bool y]) (.list [.bool x, .bool y]) = true := by cases x <;> cases y <;> decide
      rw [e]
      exact h)
theorem ok_law_told (M : Md K mg) : Df P w K mg base CX0 3 "_law_told" ["_law_matter"] (spTold K) := by
  have D__law_is_word := (ok_law_is_word (P := P) (w := w) (base := base) M).df
  have D__law_is_path := (ok_law_is_path (P := P) (w := w) (base := base) M).df
  have D_is_word := (ok_is_word (P := P) (w := w) (base := base) M).df
  have D_is_path := (ok_is_path (P := P) (w := w) (base := base) M).df
  obtain ⟨fdw, Dx_is_word, _, B_is_word_0_thing⟩ := (ok_is_word (P := P) (w := w) (base := base) M).ex
  obtain ⟨fdp, Dx_is_path, _, B_is_path_0_thing⟩ := (ok_is_path (P := P) (w := w) (base := base) M).ex
  obtain ⟨fd, F⟩ := M.d_law_told
  refine ⟨⟨fd, F.okG sc_law_told (fun vs H Q E h => ?_) (fun cdv A outer s H vs Q E hr h => ?_), F.bindsN fun _ _ _ _ _ _ us hl => match us, hl with | [_], _ => rfl⟩, M.g_law_told, F.kp⟩
  · obtain ⟨p, v, d, k, rfl, _⟩ := h
    rfl
  · obtain ⟨p, v, d, kk, rfl, hd, ⟨hg, hw, hdp⟩, k⟩ := h
    refine ⟨_, PSs.nox (pss_cons (ps_set (i := 1) sc_law_told.nd rfl (Or.inl rfl) (pe_callB (k_repr (K := K) rfl hr.gs hr.units) (by rfl) M.z_repr bt_repr (pa_cons (pv 0) pa_nil)))
 (pss_cons (ps_set (i := 2) sc_law_told.nd rfl (Or.inl rfl) (pe_lstN (pa_cons (pe_cl D__law_is_word (hr.mono (by decide)) (by rfl) pass0 (pa_cons (pv 0) pa_nil)) (pa_cons (pe_cl D__law_is_path (hr.mono (by decide)) (by rfl) pass0 (pa_cons (pv 0) pa_nil)) pa_nil))))
 (pss_cons (ps_for PassesOwn.never rfl (k_ilist (K := K) rfl (pe_lstN (pa_cons (pe_lstN (pa_cons (pe_cl D_is_word (hr.mono (by decide)) (by rfl) pass0 (pa_cons (pv 0) pa_nil)) (pa_cons (pe_cl D_is_path (hr.mono (by decide)) (by rfl) pass0 (pa_cons (pv 0) pa_nil)) pa_nil))) (pa_cons (pe_lstN (pa_cons (pe_ck0 Dx_is_word B_is_word_0_thing (hr.mono (by decide)) (by rfl) pass0 (pk_cons (pv 0) pk_nil)) (pa_cons (pe_ck0 Dx_is_path B_is_path_0_thing (hr.mono (by decide)) (by rfl) pass0 (pk_cons (pv 0) pk_nil)) pa_nil))) pa_nil)))) (pg_name (i := 3) sc_law_told.nd rfl (Or.inl rfl))
 (pss_one (ps_if (PW.pt (pw_or (pt_not (pt_val (pe_callB (k_all (K := K) rfl rfl) (by rfl) M.z_all bt_all (pa_cons (pe_lc (own := [("_law_one", 4)]) (g := (gName 4)) rfl sc_law_told.nd (k_ilist (K := K) rfl (pv 3)) (blkOk_by (own := [("_law_one", 4)]) (N := ["_law_matter", "_law_kept", "_law_due", "_law_told_here", "_law_one"]) (sc := defScope s_law_told) (by decide +kernel)) (fun _ _ _ _ _ => (pg_name (i := 4) sc_law_told.nd rfl (Or.inl rfl))) (fun _ _ _ _ _ => pts_nil) (fun _ _ _ _ _ => (pe_callB (k_isi (K := K) rfl) (by rfl) M.z_isinstance bt_isinstance (pa_cons (pv 4) (pa_cons (pe_bltn (v := .ty "bool") (by rfl) M.z_bool bt_bool rfl) pa_nil))))) pa_nil)))) (pw_or1 (pt_cmpR (k_neD (K := K) rfl hr.units) (pv 3) (pv 2) (nomark _)))))
 (pss_one (ps_ret pe_bl))
 pss_nil)))
 (pss_one (ps_ret (pe_cmpR op_eq (pe_callB (k_repr (K := K) rfl hr.gs hr.units) (by rfl) M.z_repr bt_repr (pa_cons (pv 0) pa_nil)) (pv 1) (nomark _))))))), ?_⟩
    try dsimp only [cxOf, Cx.nox]
    walk_at "go"
    refine ⟨p, v, d, kk, rfl, hd, hg, by omega, by omega, ?_⟩
    walk_at "go"
    refine ⟨p, v, d, rfl, hd, hw, fun H1 s1 => ?_⟩
    walk_at "go"
    refine ⟨p, v, d, rfl, hd.same s1, hw, fun H2 s2 => ?_⟩
    have S2 := s1.trans s2
    walk_at "go"
    intro l3 H3 n3 s3 h3
    have S3 := S2.trans s3
    walk_at "go"
    refine w_for ?_
    walk_at "go"
    refine ⟨p, v, d, rfl, hd.same S3, hw, fun H4 s4 => ?_⟩
    have S4 := S3.trans s4
    walk_at "go"
    refine ⟨p, v, d, rfl, hd.same S4, hw, fun H5 s5 => ?_⟩
    have S5 := S4.trans s5
    walk_at "go"
    intro l6 H6 n6 s6 h6
    have S6 := S5.trans s6
    walk_at "go"
    refine ⟨p, v, d, rfl, hd.same S6, hw, fun H7 s7 => ?_⟩
    have S7 := S6.trans s7
    walk_at "go"
    refine ⟨p, v, d, rfl, hd.same S7, hw, fun H8 s8 => ?_⟩
    have S8 := S7.trans s8
    walk_at "go"
    intro l9 H9 n9 s9 h9
    have S9 := S8.trans s9
    walk_at "go"
    intro l10 H10 n10 s10 h10
    have S10 := S9.trans s10
    have T3 : Same H3 H10 := (((((s4.trans s5).trans s6).trans s7).trans s8).trans s9).trans s10
    have h3 := T3 _ _ h3
    have h6 := (((s7.trans s8).trans s9).trans s10) _ _ h6
    have h9 := s10 _ _ h9
    refine ⟨l10, rfl, ⟨_, lof h10⟩, ?_⟩
    refine for_list (K := K) (a := l10) (xs := [.ref l6, .ref l9]) (fun i σ H1 => ∃ x3 x4, σ = [some v, some (.str d.shown), some (.ref l3), x3, x4] ∧ Same H10 H1)
      ⟨_, _, rfl, Same.refl _⟩ (fun i σ H1 hi h => ?_) (fun i x σ H1 hx h => ?_) (fun σ H1 h => ?_)
    · obtain ⟨_, _, _, s⟩ := h
      exact lof (s _ _ h10)
    · obtain ⟨x3, x4, rfl, s⟩ := h
      have hx : ∃ l, x = .ref l ∧ H1 l = some (.lst [.bl (isWord d), .bl (isPath d)]) := by
        match i, hx with
        | 0, hx => simp at hx; exact ⟨_, hx.symm, s _ _ h6⟩
        | 1, hx => simp at hx; exact ⟨_, hx.symm, s _ _ h9⟩
        | n + 2, hx => simp at hx
      obtain ⟨l, rfl, hl⟩ := hx
      walk_at "go"
      refine w_lc ?_
      walk_at "go"
      refine lc_L (K := K) (a := l) (fun i v _ => v = .bl ((fun _ => true) i)) (mon_const _) (lof hl) (by simp) (fun i x H2 hi s2 Q' q => ?_) (fun D H2 acc n s2 hD hA => ?_)
      · have hx : ∃ b, x = .bl b := by
          match i, hi with
          | 0, hi => simp at hi; exact ⟨_, hi.symm⟩
          | 1, hi => simp at hi; exact ⟨_, hi.symm⟩
          | n + 2, hi => simp at hi
        obtain ⟨b, rfl⟩ := hx
        walk_at "go"
        refine ⟨by rfl, ?_⟩
        walk_at "go"
        exact q _ _ (Same.refl _) rfl
      · have e := LcT.map V.bl (fun _ => true) hA
        subst e
        walk_at "go"
        refine w_all (lof hD) ?_
        rw [all_true]
        walk_at "go"
        refine ne_bools (lof (s2 _ _ hl)) (lof (s2 _ _ (s _ _ h3))) ?_
        walk_at "go"
        exact ⟨_, _, rfl, s.trans s2⟩
    · obtain ⟨x3, x4, rfl, s⟩ := h
      walk_at "go"
      refine ⟨p, v, d, kk, rfl, hd.same (S10.trans s), hg, by omega, by omega, ?_⟩
      walk_at "go"
      rw [decide_eq_true rfl]
      exact k _ (S10.trans s)
end
end Fz
/-! ### the law's own defs: purse and draws -/
namespace Fz
open PySem L2
section
variable {P : Program} {w : World} {K : PySem.W.Frag} {mg : Str → Option Value} {base : Heap}
theorem fmod_range (a : Int) {n : Int} (h : 0 < n) : 0 ≤ a.fmod n ∧ a.fmod n < n := by
  rw [Int.fmod_eq_emod_of_nonneg _ (Int.le_of_lt h)]
  exact ⟨Int.emod_nonneg _ (by omega), Int.emod_lt_of_pos _ h⟩
theorem fdiv_range {a n : Int} (h : 0 < n) (ha : 0 ≤ a) : 0 ≤ a.fdiv n ∧ a.fdiv n ≤ a := by
  rw [Int.fdiv_eq_ediv_of_nonneg _ (Int.le_of_lt h)]
  exact ⟨Int.ediv_nonneg ha (Int.le_of_lt h), Int.ediv_le_self _ ha⟩
theorem atI_mem {xs : List V} {r : Int} (h0 : 0 ≤ r) (h1 : r < xs.length) : ∃ v, v ∈ xs ∧ atI xs r = some v := by
  have hl : r.toNat < xs.length := by omega
  refine ⟨xs[r.toNat], List.getElem_mem hl, ?_⟩
  unfold atI ixN
  rw [if_pos h0, if_pos h1]
  exact List.getElem?_eq_getElem hl
/-- the purse: a new list of two numbers, from a cell of the script -/
def spPurse (K : PySem.W.Frag) : Sp := fun vs H Q _ => ∃ (a : Addr) (ns : List Int) (k : Nat), vs = [.ref a, .int k] ∧ SqL K H a (ns.map V.int) ∧ ns.length ≤ 63 ∧ k ≤ 100 ∧ ∀ p H', H p = none → Same H H' → Pur H' p → Q (.ref p) H'
theorem atI_zero {x : V} {xs : List V} : atI (x :: xs) 0 = some x := by
  unfold atI ixN
  rw [if_pos (Int.le_refl 0), if_pos (by simp)]
  rfl
theorem cut_one (ns : List Int) (k : Nat) : ∃ z, cutV (ns.map V.int) (some (k : Int)) (some ((k : Int) + 1)) ++ [V.int 0] = V.int z :: (cutV (ns.map V.int) (some (k : Int)) (some ((k : Int) + 1)) ++ [V.int 0]).tail := by
  cases e : cutV (ns.map V.int) (some (k : Int)) (some ((k : Int) + 1)) with
  | nil => exact ⟨0, rfl⟩
  | cons v r =>
    have hv : v ∈ ns.map V.int := by
      have : v ∈ cutV (ns.map V.int) (some (k : Int)) (some ((k : Int) + 1)) := by rw [e]; exact List.mem_cons_self ..
      unfold cutV at this
      exact List.mem_of_mem_drop (List.mem_of_mem_take this)
    rw [List.mem_map] at hv
    obtain ⟨z, _, rfl⟩ := hv
    exact ⟨z, rfl⟩
theorem ok_law_purse (M : Md K mg) : Df P w K mg base CX0 1 "_law_purse" ["_law_script", "_law_k"] (spPurse K) := by
  obtain ⟨fd, F⟩ := M.d_law_purse
  refine ⟨⟨fd, F.okG sc_law_purse (fun vs H Q E h => ?_) (fun cdv A outer s H vs Q E hr h => ?_), F.bindsN fun _ _ _ _ _ _ us hl => match us, hl with | [_, _], _ => rfl⟩, M.g_law_purse, F.kp⟩
  · obtain ⟨a, ns, k, rfl, _⟩ := h
    rfl
  · obtain ⟨a, ns, k, rfl, hS, hn, hk, kk⟩ := h
    refine ⟨_, PSs.nox (pss_cons (ps_set (i := 2) sc_law_purse.nd rfl (Or.inl rfl) (pe_ix (k_ixL (K := K) rfl) (pe_op op_catN (pe_slice (k_slL (K := K) rfl) (pv 0) (po_some (pv 1)) (po_some (pe_op op_add (pv 1) pe_int))) (pe_lstN (pa_cons pe_int pa_nil))) pe_int (fun _ _ => rfl)))
 (pss_cons (ps_if (PW.pt (pw_or (pt_cmpR op_ge (pv 2) (pe_op op_pow pe_int pe_int) (nomark _)) (pw_or1 (pt_cmpR op_lt (pv 2) pe_int (nomark _)))))
 (pss_one (ps_ret (pe_lstN (pa_cons (pe_callB (call_maxN rfl) (by rfl) M.z_max bt_max (pa_cons (pv 2) (pa_cons (pe_op op_sub (pe_un un_neg pe_int) (pv 2)) pa_nil))) (pa_cons pe_int pa_nil)))))
 pss_nil)
 (pss_one (ps_ret (pe_lstN (pa_cons pe_int (pa_cons (pe_op op_add pe_int (pe_op op_modN (pe_op op_add (pe_op op_mul (pv 2) pe_int) (pe_op op_mul (pe_op op_mul (pe_op op_add (pv 1) pe_int) pe_int) (pe_op op_add (pv 1) pe_int))) pe_int)) pa_nil))))))), ?_⟩
    try dsimp only [cxOf, Cx.nox]
    walk_at "go"
    intro l1 H1 n1 s1 h1
    walk_at "go"
    intro l2 H2 n2 s2 h2
    have hc := cutV_length (ns.map V.int) (some (k : Int)) (some ((k : Int) + 1))
    rw [List.length_map] at hc
    refine w_cat (s2 _ _ h1) h2 (sz (by simp; omega)) ?_
    intro l3 H3 n3 s3 h3
    obtain ⟨z, hz⟩ := cut_one ns k
    rw [hz] at h3
    walk_at "go"
    refine w_ixL (lof h3) atI_zero ?_
    walk_at "go"
    refine w_I ⟨by decide, by decide, by decide⟩ ?_
    walk_at "go"
    have S3 : Same H H3 := (s1.trans s2).trans s3
    have big : ∀ m : Int, ∀ t H4, H3 t = none → Same H3 H4 → H4 t = some (.lst [.int m, .int 0]) → Q (.ref t) H4 := fun m t H4 n4 s4 h4 =>
      kk t H4 (S3.free n4) (S3.trans s4) ⟨m, 0, h4, by decide, by decide⟩
    refine ite2 (fun e1 => ?_) (fun e1 => ?_)
    · walk_at "go"
      intro t H4 n4 s4 h4
      walk_at "go"
      exact big _ t H4 n4 s4 h4
    · have e1 := fun q => e1 (decide_eq_true q)
      walk_at "go"
      refine ite2 (fun e2 => ?_) (fun e2 => ?_)
      · walk_at "go"
        intro t H4 n4 s4 h4
        walk_at "go"
        exact big _ t H4 n4 s4 h4
      · have e2 : ¬ z < 0 := fun q => e2 (decide_eq_true q)
        walk_at "go"
        have e3 : ¬ (10 : Int) ^ 18 ≤ z := e1
        have zb : z < 10 ^ 18 := by omega
        refine w_I (.inl ⟨by omega, by omega⟩) ?_
        walk_at "go"
        refine w_I (.inl ⟨by omega, by omega⟩) ?_
        walk_at "go"
        refine w_I (.inl ⟨by omega, by omega⟩) ?_
        walk_at "go"
        refine w_I (by decide) ?_
        walk_at "go"
        intro t H4 n4 s4 h4
        walk_at "go"
        have fm := fmod_range (z * 48271 + ((k : Int) + 1) * 69621 * ((k : Int) + 7)) (n := 2147483629) (by decide)
        exact kk t H4 (S3.free n4) (S3.trans s4) ⟨_, _, h4, by omega, by omega⟩
/-- a draw: a number below n; the purse goes on -/
def spTake : Sp := fun vs H Q _ => ∃ (p : Addr) (n : Int), vs = [.ref p, .int n] ∧ 0 < n ∧ n < 1000000 ∧ Pur H p ∧ ∀ (r : Int) H', 0 ≤ r → r < n → Go p H H' → Q (.int r) H'
theorem ok_law_take (M : Md K mg) : Df P w K mg base CX0 1 "_law_take" ["_law_purse_here", "_law_many"] spTake := by
  obtain ⟨fd, F⟩ := M.d_law_take
  refine ⟨⟨fd, F.okG sc_law_take (fun vs H Q E h => ?_) (fun cdv A outer s H vs Q E hr h => ?_), F.bindsN fun _ _ _ _ _ _ us hl => match us, hl with | [_, _], _ => rfl⟩, M.g_law_take, F.kp⟩
  · obtain ⟨p, n, rfl, _⟩ := h
    rfl
  · obtain ⟨p, n, rfl, hn, hn2, ⟨a, b, hp, hb, hb2⟩, k⟩ := h
    refine ⟨_, PSs.nox (pss_cons (ps_if (pt_cmpR op_eq (pe_ix (k_ixL (K := K) rfl) (pv 0) pe_int (fun _ _ => rfl)) pe_int (nomark _))
 (pss_cons (ps_set (i := 2) sc_law_take.nd rfl (Or.inl rfl) (pe_op op_modN (pe_ix (k_ixL (K := K) rfl) (pv 0) pe_int (fun _ _ => rfl)) (pv 1)))
 (pss_cons (ps_asg (pe_op op_fdivN (pe_ix (k_ixL (K := K) rfl) (pv 0) pe_int (fun _ _ => rfl)) (pv 1)) (pg_sub (pv 0) pe_int set_listN))
 (pss_one (ps_ret (pv 2)))))
 pss_nil)
 (pss_cons (ps_asg (pe_op op_add pe_int (pe_op op_modN (pe_op op_add (pe_op op_mul (pe_ix (k_ixL (K := K) rfl) (pv 0) pe_int (fun _ _ => rfl)) pe_int) pe_int) pe_int)) (pg_sub (pv 0) pe_int set_listN))
 (pss_one (ps_ret (pe_op op_modN (pe_op op_fdivN (pe_op op_modN (pe_op op_mul (pe_ix (k_ixL (K := K) rfl) (pv 0) pe_int (fun _ _ => rfl)) pe_int) pe_int) pe_int) (pv 1)))))), ?_⟩
    try dsimp only [cxOf, Cx.nox]
    walk_at "go"
    refine ite2 (fun e => ?_) (fun e => ?_)
    · have e := of_decide_eq_true e
      subst e
      walk_at "go"
      refine w_I (by omega) ?_
      walk_at "go"
      refine w_I ⟨by omega, by omega⟩ ?_
      walk_at "go"
      intro H1 b1 h1
      have fm := fmod_range a hn
      walk_at "go"
      exact k _ _ fm.1 fm.2 ⟨b1, b1.tu hp, _, _, h1, by decide, by decide⟩
    · walk_at "go"
      refine w_I (.inl ⟨by omega, by omega⟩) ?_
      walk_at "go"
      refine w_I (by decide) ?_
      walk_at "go"
      intro H1 b1 h1
      have fm := fmod_range (b * 39373 + 7919) (n := 2147483587) (by decide)
      have h1' : H1 p = some (.lst [.int a, .int (1 + (b * 39373 + 7919).fmod 2147483587)]) := h1
      generalize (b * 39373 + 7919).fmod 2147483587 = c at *
      walk_at "go"
      refine w_I (.inl ⟨by omega, by omega⟩) ?_
      walk_at "go"
      refine w_I (by decide) ?_
      walk_at "go"
      refine w_I ⟨by decide, by decide⟩ ?_
      walk_at "go"
      refine w_I (by omega) ?_
      walk_at "go"
      have f2 := fmod_range ((((1 + c) * 30269).fmod 2147483563).fdiv 11) hn
      exact k _ _ f2.1 f2.2 ⟨b1, b1.tu hp, _, _, h1', by omega, by omega⟩
end
end Fz
/-! ### bounds of texts -/
namespace Fz
open PySem L2
theorem cps_append {x y : Str} (h1 : Cps x) (h2 : Cps y) : Cps (x ++ y) := by
  intro c hc
  have e : (x ++ y).cps.toList = x.cps.toList ++ y.cps.toList := TL.tl_append x y
  rw [e] at hc
  rcases List.mem_append.mp hc with h | h
  · exact h1 c h
  · exact h2 c h
theorem cps_cut {z : Str} {lo hi : Option Int} (h : Cps z) : Cps (cutS z lo hi) := by
  intro c hc
  have hc : c ∈ ((z.cps.toList.drop (HT.sIx z.length 0 lo)).take (HT.sIx z.length z.length hi - HT.sIx z.length 0 lo)).toArray.toList := hc
  rw [List.toList_toArray] at hc
  exact h c (List.mem_of_mem_drop (List.mem_of_mem_take hc))
theorem len_cut {z : Str} {lo hi : Option Int} : (cutS z lo hi).length ≤ z.length := by
  show (((z.cps.toList.drop (HT.sIx z.length 0 lo)).take (HT.sIx z.length z.length hi - HT.sIx z.length 0 lo)).toArray).size ≤ z.cps.size
  rw [List.size_toArray, List.length_take, List.length_drop, Array.length_toList]
  omega
theorem cps_one {c : Nat} (h : c < 16 ^ 8) : Cps ⟨#[c]⟩ := fun d hd => by
  have hd : d ∈ [c] := hd
  have : d = c := by simpa using hd
  rw [this]
  exact h
theorem len_one {c : Nat} : (⟨#[c]⟩ : Str).length = 1 := rfl
theorem joinL_bd {P : Nat → Prop} : ∀ parts : List (List Nat), (∀ q ∈ parts, q.length ≤ 1 ∧ ∀ c ∈ q, P c) → (TL.joinL [] parts).length ≤ parts.length ∧ ∀ c ∈ TL.joinL [] parts, P c
  | [], _ => ⟨Nat.le_refl _, fun c h => by cases h⟩
  | [q], h => ⟨(h q (List.mem_cons_self ..)).1, (h q (List.mem_cons_self ..)).2⟩
  | q :: r :: t, h => by
    obtain ⟨h1, h2⟩ := joinL_bd (r :: t) fun x hx => h x (List.mem_cons_of_mem _ hx)
    obtain ⟨g1, g2⟩ := h q (List.mem_cons_self ..)
    refine ⟨?_, fun c hc => ?_⟩
    · show (q ++ ([] ++ TL.joinL [] (r :: t))).length ≤ _
      rw [List.nil_append, List.length_append]
      simp only [List.length_cons] at h1 ⊢
      omega
    · have hc : c ∈ q ++ ([] ++ TL.joinL [] (r :: t)) := hc
      rw [List.nil_append] at hc
      rcases List.mem_append.mp hc with h | h
      · exact g2 c h
      · exact h2 c h
/-- signs put together -/
theorem join_bd {ys : List Str} (h : ∀ y ∈ ys, y.length ≤ 1 ∧ Cps y) : (Txt.join "" ys).length ≤ ys.length ∧ Cps (Txt.join "" ys) := by
  have e : TL.tl (Txt.join "" ys) = TL.joinL [] (ys.map TL.tl) := by
    rw [TL.join_eq, TL.tl_join]
    rfl
  have b := joinL_bd (P := fun c => c < 16 ^ 8) (ys.map TL.tl) fun q hq => by
    obtain ⟨y, hy, rfl⟩ := List.mem_map.mp hq
    exact ⟨by have := (h y hy).1; simpa [TL.tl, Str.length] using this, (h y hy).2⟩
  rw [← e, List.length_map] at b
  exact ⟨by have := b.1; simpa [TL.tl, Str.length] using this, b.2⟩
theorem sum_ones {ys : List Str} (h : ∀ y ∈ ys, y.length ≤ 1) : (ys.map (·.length)).sum ≤ ys.length := by
  induction ys with
  | nil => exact Nat.le_refl _
  | cons y ys ih =>
    have h1 := h y (List.mem_cons_self ..)
    have h2 := ih fun x hx => h x (List.mem_cons_of_mem _ hx)
    simp only [List.map_cons, List.sum_cons, List.length_cons]
    omega
/-- a text of few signs -/
def Nm (n : Nat) (x : Str) : Prop := x.length ≤ n ∧ Cps x
instance {n : Nat} {x : Str} : Decidable (Nm n x) := inferInstanceAs (Decidable (x.length ≤ n ∧ ∀ c ∈ x.cps.toList, c < 16 ^ 8))
theorem all_of {α : Type} {mk : α → V} {F : α → Prop} : ∀ {acc : List V}, (∀ v ∈ acc, ∃ y, F y ∧ v = mk y) → ∃ ys : List α, acc = ys.map mk ∧ ∀ y ∈ ys, F y
  | [], _ => ⟨[], rfl, fun y h => by cases h⟩
  | v :: acc, h => by
    obtain ⟨y, hy, rfl⟩ := h v (List.mem_cons_self ..)
    obtain ⟨ys, rfl, hys⟩ := all_of (acc := acc) fun x hx => h x (List.mem_cons_of_mem _ hx)
    refine ⟨y :: ys, rfl, fun z hz => ?_⟩
    rcases List.mem_cons.mp hz with rfl | hz
    · exact hy
    · exact hys z hz
theorem LcT.all {α : Type} {mk : α → V} {F : α → Prop} {n : Nat} {acc : List V} {H : Hp} (t : LcT (fun _ v _ => ∃ y, F y ∧ v = mk y) n acc H) : ∃ ys : List α, acc = ys.map mk ∧ (∀ y ∈ ys, F y) ∧ ys.length = n := by
  obtain ⟨ys, e, h⟩ := all_of (mk := mk) (F := F) fun v hv => by
    obtain ⟨i, hi⟩ := List.mem_iff_getElem?.mp hv
    exact t.2 i v hi
  exact ⟨ys, e, h, by rw [← t.1, e, List.length_map]⟩
theorem atI_get {α : Type} {xs : List α} {r : Int} (h0 : 0 ≤ r) (h1 : r < xs.length) : ∃ v, v ∈ xs ∧ atI xs r = some v := by
  have hl : r.toNat < xs.length := by omega
  refine ⟨xs[r.toNat], List.getElem_mem hl, ?_⟩
  unfold atI ixN
  rw [if_pos h0, if_pos h1]
  exact List.getElem?_eq_getElem hl
end Fz
/-! ### law k01: names, drawn and bent -/
namespace Fz
open PySem L2
section
variable {P : Program} {w : World} {K : PySem.W.Frag} {mg : Str → Option Value} {base : Heap}
def spName : Sp := fun vs H Q _ => ∃ p, vs = [.ref p] ∧ Pur H p ∧ ∀ (x : Str) H', x.length ≤ 9 → Cps x → Go p H H' → Q (.str x) H'
theorem letter {r : Int} (h0 : 0 ≤ r) (h1 : r < 26) : ∃ c, c < 16 ^ 8 ∧ atI LET.cps.toList r = some c := by
  obtain ⟨c, hc, e⟩ := atI_get (xs := LET.cps.toList) h0 (by have : LET.cps.toList.length = 26 := by decide +kernel
                                                             omega)
  refine ⟨c, ?_, e⟩
  have : ∀ c ∈ LET.cps.toList, c < 16 ^ 8 := by decide +kernel
  exact this c hc
theorem ok_law_name (M : Md K mg) : Df P w K mg base CX0 2 "_law_name" ["_law_purse_here"] spName := by
  have D__law_take := ok_law_take (P := P) (w := w) (base := base) M
  obtain ⟨fd, F⟩ := M.d_law_name
  refine ⟨⟨fd, F.okG sc_law_name (fun vs H Q E h => ?_) (fun cdv A outer s H vs Q E hr h => ?_), F.bindsN fun _ _ _ _ _ _ us hl => match us, hl with | [_], _ => rfl⟩, M.g_law_name, F.kp⟩
  · obtain ⟨p, rfl, _⟩ := h
    rfl
  · obtain ⟨p, rfl, hp, k⟩ := h
    refine ⟨_, PSs.nox (pss_cons (ps_set (i := 1) sc_law_name.nd rfl (Or.inl rfl) (pe_lstN (pa_cons pe_str (pa_cons pe_str (pa_cons pe_str (pa_cons pe_str (pa_cons pe_str (pa_cons pe_str (pa_cons pe_str (pa_cons pe_str (pa_cons pe_str (pa_cons pe_str pa_nil))))))))))))
 (pss_cons (ps_setLc (i := 2) (own := [("_law_turn", 3)]) (g := (gName 3)) rfl sc_law_name.nd rfl rfl (sw_true rfl rfl rfl (by decide +kernel)) (pi_range1 (by rfl) M.z_range (pa_cons (pe_op op_add pe_int (pe_cl D__law_take (hr.mono (by decide)) (by rfl) pass0 (pa_cons (pv 0) (pa_cons pe_int pa_nil)))) pa_nil)) (blkOk_by (own := [("_law_turn", 3)]) (N := ["_law_purse_here", "_law_some", "_law_letters", "_law_turn", "_law_own", "_law_letter"]) (sc := defScope s_law_name) (by decide +kernel)) (fun _ _ _ _ _ => (pg_name (i := 3) sc_law_name.nd rfl (Or.inl rfl))) (fun _ _ _ _ _ => pts_nil) (fun _ _ _ _ _ => (pe_cl D__law_take (hr.mono (by decide)) (by rfl) pass0 (pa_cons (pv 0) (pa_cons pe_int pa_nil)))))
 (pss_cons (ps_set (i := 4) sc_law_name.nd rfl (Or.inl rfl) (k_bm (K := K) rfl PySem.F.plainAttrs_str PySem.F.slot_str_join PySem.F.type_str_join (k_join (K := K) rfl) pe_str (pa_cons (pe_lc (own := [("_law_letter", 5)]) (g := (gName 5)) rfl sc_law_name.nd (k_ilist (K := K) rfl (pv 2)) (blkOk_by (own := [("_law_letter", 5)]) (N := ["_law_purse_here", "_law_some", "_law_letters", "_law_turn", "_law_own", "_law_letter"]) (sc := defScope s_law_name) (by decide +kernel)) (fun _ _ _ _ _ => (pg_name (i := 5) sc_law_name.nd rfl (Or.inl rfl))) (fun _ _ _ _ _ => pts_nil) (fun _ _ _ _ _ => (pe_ix ix_str pe_str (pv 5) (fun _ _ => rfl)))) pa_nil)))
 (pss_one (ps_ret (pe_ix (k_ixL (K := K) rfl) (pe_lstN (pa_cons (pv 4) (pa_cons (pv 4) (pa_cons (pe_ix (k_ixL (K := K) rfl) (pv 1) (pe_cl D__law_take (hr.mono (by decide)) (by rfl) pass0 (pa_cons (pv 0) (pa_cons pe_int pa_nil))) (fun _ _ => rfl)) pa_nil)))) (pe_cl D__law_take (hr.mono (by decide)) (by rfl) pass0 (pa_cons (pv 0) (pa_cons pe_int pa_nil))) (fun _ _ => rfl))))))), ?_⟩
    try dsimp only [cxOf, Cx.nox]
    walk_at "go"
    intro l1 H1 n1 s1 h1
    have hp1 := hp.same s1
    have nl1 : l1 ≠ p := hp.ne n1
    walk_at "go"
    refine w_lc ?_
    walk_at "go"
    refine ⟨p, _, rfl, by omega, by omega, hp1, fun r H2 r0 r1 g2 => ?_⟩
    walk_at "go"
    refine lg_R (p := p) (1 + r) (fun i v _ => ∃ n : Int, 0 ≤ n ∧ n < 26 ∧ v = .int n) (fun _ _ _ _ h _ => h) g2.pur (by omega) (by omega) (fun i H3 hi g3 Q' q => ?_) (fun D H3 acc n3 g3 hD hT => ?_)
    · walk_at "go"
      refine ⟨by rfl, ?_⟩
      walk_at "go"
      exact ⟨p, _, rfl, by omega, by omega, g3.pur, fun r H4 r0 r1 g4 => q _ _ g4 ⟨r, r0, r1, rfl⟩⟩
    have G3 := (Go.of hp s1).trans (g2.trans g3)
    have hl1 := (g2.trans g3).keep _ _ h1 nl1
    have nD : D ≠ p := g2.pur.ne n3
    have hal := hT.1
    walk_at "go"
    refine w_lc ?_
    walk_at "go"
    refine lc_L (K := K) (a := D) (fun i v _ => ∃ y : Str, Nm 1 y ∧ v = .str y) (fun _ _ _ _ h _ => h) (lof hD) (by omega) (fun i x H4 hi s4 Q' q => ?_) (fun D2 H4 acc2 n4 s4 hD2 hT2 => ?_)
    · obtain ⟨n, m0, m1, rfl⟩ := hT.2 i x hi
      walk_at "go"
      refine ⟨by rfl, ?_⟩
      walk_at "go"
      obtain ⟨c, hc, e⟩ := letter m0 m1
      refine w_ixS (by decide +kernel) e ?_
      exact q _ _ (Same.refl _) ⟨⟨#[c]⟩, ⟨Nat.le_refl 1, cps_one hc⟩, rfl⟩
    obtain ⟨ys, rfl, hys, hyl⟩ := hT2.all
    have hyl : ys.length ≤ 9 := by omega
    have hjb := join_bd hys
    have hp4 := (G3.pur).same s4
    walk_at "go"
    refine w_joinL (lof hD2) (by have := sum_ones fun y hy => (hys y hy).1; have e0 : (("" : Str)).length = 0 := rfl; rw [e0]; omega) ?_
    walk_at "go"
    refine ⟨p, _, rfl, by omega, by omega, hp4, fun r5 H5 r50 r51 g5 => ?_⟩
    have hl5 := g5.keep _ _ (s4 _ _ hl1) nl1
    obtain ⟨v, hv, e⟩ := atI_mem (xs := [.str "root", .str "read", .str "folder", .str "end", .str "none", .str "told", .str "a", .str "rw", .str "straight", .str "straights"]) r50 r51
    obtain ⟨y, rfl, hy⟩ : ∃ y : Str, v = .str y ∧ Nm 9 y := by
      simp only [List.mem_cons, List.not_mem_nil, or_false] at hv
      rcases hv with rfl | rfl | rfl | rfl | rfl | rfl | rfl | rfl | rfl | rfl <;> exact ⟨_, rfl, by decide +kernel⟩
    refine w_ixL (lof hl5) e ?_
    have G5 := (G3.same s4).trans g5
    walk_at "go"
    intro l6 H6 n6 s6 h6
    have G6 := G5.same s6
    walk_at "go"
    refine ⟨p, _, rfl, by omega, by omega, G6.pur, fun r7 H7 r70 r71 g7 => ?_⟩
    have nl6 : l6 ≠ p := G5.pur.ne n6
    have h6 := g7.keep _ _ h6 nl6
    obtain ⟨v, hv, e⟩ := atI_mem (xs := [.str (Txt.join "" ys), .str (Txt.join "" ys), .str y]) r70 r71
    refine w_ixL (lof h6) e ?_
    simp only [List.mem_cons, List.not_mem_nil, or_false] at hv
    have hj : Nm 9 (Txt.join "" ys) := ⟨Nat.le_trans hjb.1 hyl, hjb.2⟩
    have fin : ∀ z, Nm 9 z → Q (.str z) H7 := fun z hz => k z H7 hz.1 hz.2 (G6.trans g7)
    rcases hv with rfl | rfl | rfl
    · exact fin _ hj
    · exact fin _ hj
    · exact fin _ hy
end
end Fz
/-! ### law k01: names bent, odd things -/
namespace Fz
open PySem L2
section
variable {P : Program} {w : World} {K : PySem.W.Frag} {mg : Str → Option Value} {base : Heap}
def spBent : Sp := fun vs H Q _ => ∃ p x, vs = [.ref p, .str x] ∧ Pur H p ∧ Nm 20 x ∧ ∀ (y : Str) H', Nm 41 y → Go p H H' → Q (.str y) H'
def SIGNS : Str := "ABZ019 \n-_./!{~a'\""
theorem ok_law_bent (M : Md K mg) : Df P w K mg base CX0 2 "_law_bent" ["_law_purse_here", "_law_name_here"] spBent := by
  have D__law_take := ok_law_take (P := P) (w := w) (base := base) M
  obtain ⟨fd, F⟩ := M.d_law_bent
  refine ⟨⟨fd, F.okG sc_law_bent (fun vs H Q E h => ?_) (fun cdv A outer s H vs Q E hr h => ?_), F.bindsN fun _ _ _ _ _ _ us hl => match us, hl with | [_, _], _ => rfl⟩, M.g_law_bent, F.kp⟩
  · obtain ⟨p, x, rfl, _⟩ := h
    rfl
  · obtain ⟨p, x, rfl, hp, ⟨hx, hc⟩, k⟩ := h
    have hxs : x.length ≤ sizeLine := sz (by omega)
    refine ⟨_, PSs.nox (pss_cons (ps_par (i := 2) (j := 3) (by rfl) sc_law_bent.nd rfl rfl (by decide) rfl rfl (pa_cons (pe_cl D__law_take (hr.mono (by decide)) (by rfl) pass0 (pa_cons (pv 0) (pa_cons (pe_op op_add (pe_callB (k_len (K := K) rfl) (by rfl) M.z_len bt_len (pa_cons (pv 1) pa_nil)) pe_int) pa_nil))) (pa_cons (pe_cl D__law_take (hr.mono (by decide)) (by rfl) pass0 (pa_cons (pv 0) (pa_cons pe_int pa_nil))) pa_nil)) (by rfl))
 (pss_cons (ps_set (i := 4) sc_law_bent.nd rfl (Or.inl rfl) pe_str)
 (pss_cons (ps_set (i := 5) sc_law_bent.nd rfl (Or.inl rfl) (pe_ix ix_str (pv 4) (pe_cl D__law_take (hr.mono (by decide)) (by rfl) pass0 (pa_cons (pv 0) (pa_cons (pe_callB (k_len (K := K) rfl) (by rfl) M.z_len bt_len (pa_cons (pv 4) pa_nil)) pa_nil))) (fun _ _ => rfl)))
 (pss_one (ps_ret (pe_ix (k_ixL (K := K) rfl) (pe_lstN (pa_cons (pe_op op_addSN (pe_op op_addSN (pe_slice sl_str (pv 1) po_none (po_some (pv 2))) (pv 5)) (pe_slice sl_str (pv 1) (po_some (pe_op op_add (pv 2) pe_int)) po_none)) (pa_cons (pe_op op_addSN (pe_op op_addSN (pe_slice sl_str (pv 1) po_none (po_some (pv 2))) (pv 5)) (pe_slice sl_str (pv 1) (po_some (pv 2)) po_none)) (pa_cons (pe_op op_addSN (pe_slice sl_str (pv 1) po_none (po_some (pv 2))) (pe_slice sl_str (pv 1) (po_some (pe_op op_add (pv 2) pe_int)) po_none)) pa_nil)))) (pv 3) (fun _ _ => rfl))))))), ?_⟩
    try dsimp only [cxOf, Cx.nox]
    walk_at "go"
    refine w_lenS hxs ?_
    walk_at "go"
    refine ⟨p, _, rfl, by omega, by omega, hp, fun r1 H1 r10 r11 g1 => ?_⟩
    walk_at "go"
    refine ⟨p, _, rfl, by omega, by omega, g1.pur, fun r2 H2 r20 r21 g2 => ?_⟩
    have G2 := g1.trans g2
    walk_at "go"
    refine w_lenS (z := SIGNS) (by decide +kernel) ?_
    walk_at "go"
    refine ⟨p, _, rfl, by decide +kernel, by decide +kernel, G2.pur, fun r3 H3 r30 r31 g3 => ?_⟩
    have G3 := G2.trans g3
    obtain ⟨c, hcm, e⟩ := atI_get (xs := SIGNS.cps.toList) (r := r3) r30 r31
    have hcc : c < 16 ^ 8 := by
      have : ∀ c ∈ SIGNS.cps.toList, c < 16 ^ 8 := by decide +kernel
      exact this c hcm
    refine w_ixS (z := SIGNS) (by decide +kernel) e ?_
    have hs1 := cps_one hcc
    have cut : ∀ lo hi, Nm x.length (cutS x lo hi) := fun lo hi => ⟨len_cut, cps_cut hc⟩
    have lc : ∀ lo hi, (cutS x lo hi).length ≤ 20 := fun lo hi => Nat.le_trans (cut lo hi).1 hx
    have l1 : (⟨#[c]⟩ : Str).length = 1 := rfl
    have la : ∀ a b : Str, (a ++ b).length = a.length + b.length := strLen_append
    have n1 : ∀ lo hi lo' hi', Nm 41 (cutS x lo hi ++ ⟨#[c]⟩ ++ cutS x lo' hi') := fun lo hi lo' hi' =>
      ⟨by rw [la, la, l1]; have := lc lo hi; have := lc lo' hi'; omega, cps_append (cps_append (cut lo hi).2 hs1) (cut lo' hi').2⟩
    have n2 : ∀ lo hi lo' hi', Nm 41 (cutS x lo hi ++ cutS x lo' hi') := fun lo hi lo' hi' =>
      ⟨by rw [la]; have := lc lo hi; have := lc lo' hi'; omega, cps_append (cut lo hi).2 (cut lo' hi').2⟩
    have b1 : ∀ lo hi, (cutS x lo hi).length + (⟨#[c]⟩ : Str).length ≤ sizeLine := fun lo hi => sz (by have := lc lo hi; omega)
    have b2 : ∀ lo hi lo' hi', (cutS x lo hi ++ ⟨#[c]⟩).length + (cutS x lo' hi').length ≤ sizeLine := fun lo hi lo' hi' => sz (by rw [la]; have := lc lo hi; have := lc lo' hi'; omega)
    have b3 : ∀ lo hi lo' hi', (cutS x lo hi).length + (cutS x lo' hi').length ≤ sizeLine := fun lo hi lo' hi' => sz (by have := lc lo hi; have := lc lo' hi'; omega)
    walk_at "go"
    refine w_slS hxs ?_
    walk_at "go"
    refine w_addS (b1 _ _) ?_
    walk_at "go"
    refine w_slS hxs ?_
    walk_at "go"
    refine w_addS (b2 _ _ _ _) ?_
    walk_at "go"
    refine w_slS hxs ?_
    walk_at "go"
    refine w_addS (b1 _ _) ?_
    walk_at "go"
    refine w_slS hxs ?_
    walk_at "go"
    refine w_addS (b2 _ _ _ _) ?_
    walk_at "go"
    refine w_slS hxs ?_
    walk_at "go"
    refine w_slS hxs ?_
    walk_at "go"
    refine w_addS (b3 _ _ _ _) ?_
    walk_at "go"
    intro l4 H4 n4 s4 h4
    walk_at "go"
    obtain ⟨v, hv, e⟩ := atI_mem (xs := [.str (cutS x none (some r1) ++ ⟨#[c]⟩ ++ cutS x (some (r1 + 1)) none), .str (cutS x none (some r1) ++ ⟨#[c]⟩ ++ cutS x (some r1) none), .str (cutS x none (some r1) ++ cutS x (some (r1 + 1)) none)]) r20 r21
    refine w_ixL (lof h4) e ?_
    simp only [List.mem_cons, List.not_mem_nil, or_false] at hv
    have G4 := G3.same s4
    rcases hv with rfl | rfl | rfl
    · exact k _ _ (n1 ..) G4
    · exact k _ _ (n1 ..) G4
    · exact k _ _ (n2 ..) G4
/-- what is drawn as an odd thing -/
def Od (K : PySem.W.Frag) (p : Addr) (H : Hp) (v : V) : Prop := ∃ d k, Lim k 60 3 d ∧ Dq K p H v d
def spOdd (K : PySem.W.Frag) : Sp := fun vs H Q _ => ∃ p, vs = [.ref p] ∧ Pur H p ∧ ∀ v H', Od K p H' v → Go p H H' → Q v H'
theorem ok_law_odd (M : Md K mg) : Df P w K mg base CX0 2 "_law_odd" ["_law_purse_here"] (spOdd K) := by
  have D__law_take := ok_law_take (P := P) (w := w) (base := base) M
  obtain ⟨fd, F⟩ := M.d_law_odd
  refine ⟨⟨fd, F.okG sc_law_odd (fun vs H Q E h => ?_) (fun cdv A outer s H vs Q E hr h => ?_), F.bindsN fun _ _ _ _ _ _ us hl => match us, hl with | [_], _ => rfl⟩, M.g_law_odd, F.kp⟩
  · obtain ⟨p, rfl, _⟩ := h
    rfl
  · obtain ⟨p, rfl, hp, k⟩ := h
    refine ⟨_, PSs.nox (pss_cons (ps_set (i := 1) sc_law_odd.nd rfl (Or.inl rfl) (pe_lstN (pa_cons pe_non (pa_cons pe_bl (pa_cons pe_bl (pa_cons pe_int (pa_cons pe_int (pa_cons pe_str (pa_cons (pe_lstN pa_nil) (pa_cons pe_dnewN (pa_cons (pe_tupN (pa_cons pe_str pa_nil)) (pa_cons (pe_lstN (pa_cons pe_str pa_nil)) (pa_cons (pe_tupN (pa_cons (pe_lstN pa_nil) pa_nil)) (pa_cons (pe_tupN (pa_cons pe_non pa_nil)) (pa_cons (pe_disp1 pe_str pe_int) (pa_cons (pe_tupN (pa_cons pe_str pa_nil)) (pa_cons (pe_tupN (pa_cons pe_str (pa_cons (pe_tupN (pa_cons pe_str pa_nil)) pa_nil))) (pa_cons pe_str pa_nil))))))))))))))))))
 (pss_one (ps_ret (pe_ix (k_ixL (K := K) rfl) (pv 1) (pe_cl D__law_take (hr.mono (by decide)) (by rfl) pass0 (pa_cons (pv 0) (pa_cons pe_int pa_nil))) (fun _ _ => rfl))))), ?_⟩
    try dsimp only [cxOf, Cx.nox]
    walk_at "go"
    intro a1 H1 n1 s1 h1
    walk_at "go"
    intro a2 H2 n2 s2 h2
    walk_at "go"
    intro a3 H3 n3 s3 h3
    walk_at "go"
    intro a4 H4 n4 s4 h4
    walk_at "go"
    intro a5 H5 n5 s5 h5
    walk_at "go"
    intro a6 H6 n6 s6 h6
    walk_at "go"
    intro a7 H7 n7 s7 h7
    walk_at "go"
    intro a8 H8 n8 s8 h8
    walk_at "go"
    intro a9 H9 n9 s9 h9
    walk_at "go"
    intro a10 H10 n10 s10 h10
    walk_at "go"
    intro a11 H11 n11 s11 h11
    walk_at "go"
    intro a12 H12 n12 s12 h12
    walk_at "go"
    have t12 : Same H12 H12 := Same.refl _
    have t11 : Same H11 H12 := s12.trans t12
    have t10 : Same H10 H12 := s11.trans t11
    have t9 : Same H9 H12 := s10.trans t10
    have t8 : Same H8 H12 := s9.trans t9
    have t7 : Same H7 H12 := s8.trans t8
    have t6 : Same H6 H12 := s7.trans t7
    have t5 : Same H5 H12 := s6.trans t6
    have t4 : Same H4 H12 := s5.trans t5
    have t3 : Same H3 H12 := s4.trans t4
    have t2 : Same H2 H12 := s3.trans t3
    have t1 : Same H1 H12 := s2.trans t2
    have t0 : Same H H12 := s1.trans t1
    have h1 := t1 _ _ h1
    have h2 := t2 _ _ h2
    have h3 := t3 _ _ h3
    have h4 := t4 _ _ h4
    have h5 := t5 _ _ h5
    have h6 := t6 _ _ h6
    have h7 := t7 _ _ h7
    have h8 := t8 _ _ h8
    have h9 := t9 _ _ h9
    have h10 := t10 _ _ h10
    have h11 := t11 _ _ h11
    have h12 := t12 _ _ h12
    have p1 := hp.same s1
    have p2 := p1.same s2
    have p3 := p2.same s3
    have p4 := p3.same s4
    have p5 := p4.same s5
    have p6 := p5.same s6
    have p7 := p6.same s7
    have p8 := p7.same s8
    have p9 := p8.same s9
    have p10 := p9.same s10
    have p11 := p10.same s11
    have q1 : a1 ≠ p := hp.ne n1
    have q2 : a2 ≠ p := p1.ne n2
    have q4 : a4 ≠ p := p3.ne n4
    have q5 : a5 ≠ p := p4.ne n5
    have q8 : a8 ≠ p := p7.ne n8
    have q12 : a12 ≠ p := p11.ne n12
    have li : ∀ k d, (good k d && decide (wt d ≤ 60) && decide (d.depth ≤ 3)) = true → Lim k 60 3 d := fun k d h => by
      simp only [Bool.and_eq_true, decide_eq_true_eq] at h
      exact ⟨h.1.1, h.1.2, h.2⟩
    have all : ∀ v ∈ [V.non, .bl true, .bl false, .int 0, .int 7, .str "", .ref a1, .ref a2, .ref a3, .ref a4, .ref a6, .ref a7, .ref a8, .ref a9, .ref a11, .str "A"], Od K p H12 v := by
      intro v hv
      simp only [List.mem_cons, List.not_mem_nil, or_false] at hv
      have d5 : Dq K p H12 (.ref a5) (.list []) := .lst q5 (lof h5) .nil
      have d10 : Dq K p H12 (.ref a10) (.tuple [.str "c"]) := .tup (tof h10) (.cons (.str _) .nil)
      rcases hv with rfl | rfl | rfl | rfl | rfl | rfl | rfl | rfl | rfl | rfl | rfl | rfl | rfl | rfl | rfl | rfl
      · exact ⟨.none, true, li _ _ (by decide +kernel), .non⟩
      · exact ⟨.bool true, true, li _ _ (by decide +kernel), .bl _⟩
      · exact ⟨.bool false, true, li _ _ (by decide +kernel), .bl _⟩
      · exact ⟨.int 0, true, li _ _ (by decide +kernel), .int _⟩
      · exact ⟨.int 7, true, li _ _ (by decide +kernel), .int _⟩
      · exact ⟨.str "", true, li _ _ (by decide +kernel), .str _⟩
      · exact ⟨.list [], true, li _ _ (by decide +kernel), .lst q1 (lof h1) .nil⟩
      · exact ⟨.dict [], false, li _ _ (by decide +kernel), .dct q2 h2 .nil⟩
      · exact ⟨.tuple [.str "a"], true, li _ _ (by decide +kernel), .tup (tof h3) (.cons (.str _) .nil)⟩
      · exact ⟨.list [.str "a"], true, li _ _ (by decide +kernel), .lst q4 (lof h4) (.cons (.str _) .nil)⟩
      · exact ⟨.tuple [.list []], true, li _ _ (by decide +kernel), .tup (tof h6) (.cons d5 .nil)⟩
      · exact ⟨.tuple [.none], true, li _ _ (by decide +kernel), .tup (tof h7) (.cons .non .nil)⟩
      · exact ⟨.dict [(.str "a", .int 1)], false, li _ _ (by decide +kernel), .dct (es := [(Sum.inr "a", .int 1)]) (ds := [.int 1]) q8 h8 (.cons (.int 1) .nil)⟩
      · exact ⟨.tuple [.str ""], true, li _ _ (by decide +kernel), .tup (tof h9) (.cons (.str _) .nil)⟩
      · exact ⟨.tuple [.str "ab", .tuple [.str "c"]], true, li _ _ (by decide +kernel), .tup (tof h11) (.cons (.str _) (.cons d10 .nil))⟩
      · exact ⟨.str "A", true, li _ _ (by decide +kernel), .str _⟩
    refine ⟨p, _, rfl, by omega, by omega, hp.same t0, fun r H13 r0 r1 g => ?_⟩
    obtain ⟨v, hv, e⟩ := atI_mem (xs := [V.non, .bl true, .bl false, .int 0, .int 7, .str "", .ref a1, .ref a2, .ref a3, .ref a4, .ref a6, .ref a7, .ref a8, .ref a9, .ref a11, .str "A"]) r0 r1
    refine w_ixL (lof (g.keep _ _ h12 q12)) e ?_
    obtain ⟨d, kk, l, hd⟩ := all v hv
    exact k _ _ ⟨d, kk, l, hd.go g⟩ ((Go.of hp t0).trans g)
end
end Fz
/-! ### things within bounds -/
namespace Fz
open PySem L2
section
variable {K : PySem.W.Frag} {p : Addr} {H H' : Hp} {v : V} {k : Bool} {w h w' h' : Nat}
def El (K : PySem.W.Frag) (p : Addr) (k : Bool) (w h : Nat) (H : Hp) (v : V) : Prop := ∃ d, Lim k w h d ∧ Dq K p H v d
theorem El.go (e : El K p k w h H v) (g : Go p H H') : El K p k w h H' v := let ⟨d, l, q⟩ := e; ⟨d, l, q.go g⟩
theorem El.same (e : El K p k w h H v) (g : Same H H') : El K p k w h H' v := let ⟨d, l, q⟩ := e; ⟨d, l, q.same g⟩
theorem El.le (e : El K p k w h H v) (a : w ≤ w') (b : h ≤ h') : El K p k w' h' H v := let ⟨d, l, q⟩ := e; ⟨d, l.le a b, q⟩
theorem el_str {x : Str} {n : Nat} (l : Nm n x) : El K p k (10 * n + 2) 0 H (.str x) := ⟨.str x, lim_str l.1 l.2, .str x⟩
theorem el_all : ∀ {xs : List V}, (∀ v ∈ xs, El K p k w h H v) → ∃ ds, DqAll K p H xs ds ∧ (∀ d ∈ ds, Lim k w h d) ∧ ds.length = xs.length
  | [], _ => ⟨[], .nil, (fun d hd => by cases hd), rfl⟩
  | v :: xs, e => by
    obtain ⟨d, l, q⟩ := e v (List.mem_cons_self ..)
    obtain ⟨ds, h1, h2, h3⟩ := el_all (xs := xs) fun x hx => e x (List.mem_cons_of_mem _ hx)
    refine ⟨d :: ds, .cons q h1, fun z hz => ?_, by rw [List.length_cons, List.length_cons, h3]⟩
    rcases List.mem_cons.mp hz with rfl | hz
    · exact l
    · exact h2 z hz
theorem el_tup {xs : List V} {a : Addr} {n : Nat} (hs : SqT K H a xs) (e : ∀ v ∈ xs, El K p k w h H v) (hn : xs.length ≤ n) : El K p k (3 + n * (w + 2)) (h + 1) H (.ref a) := by
  obtain ⟨ds, h1, h2, h3⟩ := el_all e
  exact ⟨.tuple ds, lim_tup h2 (by omega), .tup hs h1⟩
theorem el_lst {xs : List V} {a : Addr} {n : Nat} (na : a ≠ p) (hs : SqL K H a xs) (e : ∀ v ∈ xs, El K p true w h H v) (hn : xs.length ≤ n) : El K p true (3 + n * (w + 2)) (h + 1) H (.ref a) := by
  obtain ⟨ds, h1, h2, h3⟩ := el_all e
  exact ⟨.list ds, lim_list h2 (by omega), .lst na hs h1⟩
theorem cutV_mem {xs : List V} {lo hi : Option Int} (h : v ∈ cutV xs lo hi) : v ∈ xs := List.mem_of_mem_drop (List.mem_of_mem_take h)
end
end Fz
/-! ### law k01: ways -/
namespace Fz
open PySem L2
section
variable {P : Program} {w : World} {K : PySem.W.Frag} {mg : Str → Option Value} {base : Heap}
def Wy (K : PySem.W.Frag) (p : Addr) (H : Hp) (v : V) : Prop := ∃ k, El K p k 20000 6 H v
def spWay (K : PySem.W.Frag) : Sp := fun vs H Q _ => ∃ p, vs = [.ref p] ∧ Pur H p ∧ ∀ v H', Wy K p H' v → Go p H H' → Q v H'
theorem ok_law_way (M : Md K mg) : Df P w K mg base CX0 3 "_law_way" ["_law_purse_here"] (spWay K) := by
  have D__law_take := ok_law_take (P := P) (w := w) (base := base) M
  have D__law_name := ok_law_name (P := P) (w := w) (base := base) M
  have D__law_bent := ok_law_bent (P := P) (w := w) (base := base) M
  have D__law_odd := ok_law_odd (P := P) (w := w) (base := base) M
  obtain ⟨fd, F⟩ := M.d_law_way
  refine ⟨⟨fd, F.okG sc_law_way (fun vs H Q E h => ?_) (fun cdv A outer s H vs Q E hr h => ?_), F.bindsN fun _ _ _ _ _ _ us hl => match us, hl with | [_], _ => rfl⟩, M.g_law_way, F.kp⟩
  · obtain ⟨p, rfl, _⟩ := h
    rfl
  · obtain ⟨p, rfl, hp, k⟩ := h
    refine ⟨_, PSs.nox (pss_cons (ps_par (i := 1) (j := 2) (by rfl) sc_law_way.nd rfl rfl (by decide) rfl rfl (pa_cons (pe_cl D__law_take (hr.mono (by decide)) (by rfl) pass0 (pa_cons (pv 0) (pa_cons pe_int pa_nil))) (pa_cons (pe_ix (k_ixL (K := K) rfl) (pe_lstN (pa_cons pe_int (pa_cons pe_int (pa_cons pe_int (pa_cons pe_int (pa_cons pe_int (pa_cons pe_int (pa_cons pe_int (pa_cons pe_int pa_nil))))))))) (pe_cl D__law_take (hr.mono (by decide)) (by rfl) pass0 (pa_cons (pv 0) (pa_cons pe_int pa_nil))) (fun _ _ => rfl)) pa_nil)) (by rfl))
 (pss_cons (ps_set (i := 3) sc_law_way.nd rfl (Or.inl rfl) (pe_callTy (k_tuple (K := K) rfl) (by rfl) M.z_tuple bt_tuple (pa_cons (pe_lc (own := [("_law_turn", 4)]) (g := (gName 4)) rfl sc_law_way.nd (pi_range1 (by rfl) M.z_range (pa_cons (pv 2) pa_nil)) (blkOk_by (own := [("_law_turn", 4)]) (N := ["_law_purse_here", "_law_way_here", "_law_many", "_law_found", "_law_turn", "_law_at", "_law_odd_here", "_law_name_here"]) (sc := defScope s_law_way) (by decide +kernel)) (fun _ _ _ _ _ => (pg_name (i := 4) sc_law_way.nd rfl (Or.inl rfl))) (fun _ _ _ _ _ => pts_nil) (fun _ _ _ _ _ => (pe_cl D__law_name (hr.mono (by decide)) (by rfl) pass0 (pa_cons (pv 0) pa_nil)))) pa_nil)))
 (pss_cons (ps_par (i := 5) (j := 6) (by rfl) sc_law_way.nd rfl rfl (by decide) rfl rfl (pa_cons (pe_cl D__law_take (hr.mono (by decide)) (by rfl) pass0 (pa_cons (pv 0) (pa_cons (pe_op op_add (pv 2) pe_int) pa_nil))) (pa_cons (pe_cl D__law_odd (hr.mono (by decide)) (by rfl) pass0 (pa_cons (pv 0) pa_nil)) pa_nil)) (by rfl))
 (pss_cons (ps_if (pt_cmpR op_eq (pv 1) pe_int (nomark _))
 (pss_one (ps_ret (pe_callTy (k_list (K := K) rfl) (by rfl) M.z_list bt_list (pa_cons (pv 3) pa_nil))))
 pss_nil)
 (pss_cons (ps_if (pt_cmpR op_eq (pv 1) pe_int (nomark _))
 (pss_one (ps_ret (pe_op (k_catTN (K := K) rfl) (pe_op (k_catTN (K := K) rfl) (pe_slice (k_slTN (K := K) rfl) (pv 3) po_none (po_some (pv 5))) (pe_tupN (pa_cons (pv 6) pa_nil))) (pe_slice (k_slTN (K := K) rfl) (pv 3) (po_some (pe_op op_add (pv 5) pe_int)) po_none))))
 pss_nil)
 (pss_cons (ps_if (pt_cmpR op_eq (pv 1) pe_int (nomark _))
 (pss_one (ps_ret (pe_op (k_catTN (K := K) rfl) (pe_slice (k_slTN (K := K) rfl) (pv 3) po_none (po_some (pv 5))) (pe_tupN (pa_cons (pe_slice (k_slTN (K := K) rfl) (pv 3) (po_some (pv 5)) po_none) pa_nil)))))
 pss_nil)
 (pss_cons (ps_if (pt_cmpR op_eq (pv 1) pe_int (nomark _))
 (pss_one (ps_ret (pe_op (k_catTN (K := K) rfl) (pe_op (k_catTN (K := K) rfl) (pe_slice (k_slTN (K := K) rfl) (pv 3) po_none (po_some (pv 5))) (pe_callTy (k_tuple (K := K) rfl) (by rfl) M.z_tuple bt_tuple (pa_cons (pe_lc (own := [("_law_name_here", 7)]) (g := (gName 7)) rfl sc_law_way.nd (k_itup (K := K) rfl (pe_slice (k_slTN (K := K) rfl) (pv 3) (po_some (pv 5)) (po_some (pe_op op_add (pv 5) pe_int)))) (blkOk_by (own := [("_law_name_here", 7)]) (N := ["_law_purse_here", "_law_way_here", "_law_many", "_law_found", "_law_turn", "_law_at", "_law_odd_here", "_law_name_here"]) (sc := defScope s_law_way) (by decide +kernel)) (fun _ _ _ _ _ => (pg_name (i := 7) sc_law_way.nd rfl (Or.inl rfl))) (fun _ _ _ _ _ => pts_nil) (fun _ _ _ _ _ => (pe_cl D__law_bent (hr.mono (by decide)) (by rfl) pass0 (pa_cons (pv 0) (pa_cons (pv 7) pa_nil))))) pa_nil))) (pe_slice (k_slTN (K := K) rfl) (pv 3) (po_some (pe_op op_add (pv 5) pe_int)) po_none))))
 pss_nil)
 (pss_one (ps_ret (pv 3)))))))))), ?_⟩
    try dsimp only [cxOf, Cx.nox]
    walk_at "go"
    refine ⟨p, _, rfl, by omega, by omega, hp, fun way H1 w0 w1 g1 => ?_⟩
    walk_at "go"
    intro l2 H2 n2 s2 h2
    have G2 := g1.same s2
    walk_at "go"
    refine ⟨p, _, rfl, by omega, by omega, G2.pur, fun r3 H3 r30 r31 g3 => ?_⟩
    have G3 := G2.trans g3
    obtain ⟨v, hv, e⟩ := atI_mem (xs := [V.int 0, .int 1, .int 2, .int 3, .int 5, .int 6, .int 7, .int 8]) r30 r31
    refine w_ixL (lof (g3.keep _ _ h2 (g1.pur.ne n2))) e ?_
    obtain ⟨many, rfl, m0, m1⟩ : ∃ n : Int, v = .int n ∧ 0 ≤ n ∧ n ≤ 8 := by
      simp only [List.mem_cons, List.not_mem_nil, or_false] at hv
      rcases hv with rfl | rfl | rfl | rfl | rfl | rfl | rfl | rfl <;> exact ⟨_, rfl, by decide, by decide⟩
    walk_at "go"
    refine w_lc ?_
    walk_at "go"
    refine lg_R (p := p) many (fun i v _ => ∃ y : Str, Nm 9 y ∧ v = .str y) (fun _ _ _ _ h _ => h) G3.pur (by omega) (by omega) (fun i H4 hi g4 Q' q => ?_) (fun D H4 acc n4 g4 hD hT => ?_)
    · walk_at "go"
      refine ⟨by rfl, ?_⟩
      walk_at "go"
      exact ⟨p, rfl, g4.pur, fun x H5 hx hc g5 => q _ _ g5 ⟨x, ⟨hx, hc⟩, rfl⟩⟩
    obtain ⟨ys, rfl, hys, hyl⟩ := hT.all
    have hyl : ys.length ≤ 8 := by omega
    have G4 := G3.trans g4
    walk_at "go"
    intro f H5 n5 s5 h5
    have G5 := G4.same s5
    walk_at "go"
    refine ⟨p, _, rfl, by omega, by omega, G5.pur, fun at_ H6 at0 at1 g6 => ?_⟩
    walk_at "go"
    refine ⟨p, rfl, g6.pur, fun odd H7 ho g7 => ?_⟩
    have G7 := G5.trans (g6.trans g7)
    have hf : SqT K H7 f (ys.map V.str) := (g6.trans g7).tu.tup (tof h5)
    obtain ⟨dd, kk, hol, hod⟩ := ho
    have elS : ∀ {k H}, ∀ v ∈ ys.map V.str, El K p k 92 0 H v := fun {k H} v hv => by
      obtain ⟨y, hy, rfl⟩ := List.mem_map.mp hv
      exact el_str (hys y hy)
    have cl : ∀ lo hi, (cutV (ys.map V.str) lo hi).length ≤ 8 := fun lo hi => by
      have := cutV_length (ys.map V.str) lo hi
      rw [List.length_map] at this
      omega
    walk_at "go"
    refine ite2 (fun e => ?_) (fun e => ?_)
    · walk_at "go"
      intro l8 H8 n8 s8 h8
      exact k _ _ ⟨true, (el_lst (n := 8) (G7.pur.ne n8) (lof h8) elS (by rw [List.length_map]; exact hyl)).le (by omega) (by omega)⟩ (G7.same s8)
    walk_at "go"
    refine ite2 (fun e => ?_) (fun e => ?_)
    · walk_at "go"
      intro b8 H8 s8 h8
      walk_at "go"
      intro b9 H9 n9 s9 h9
      walk_at "go"
      refine w_catT (same_tup s9 h8) (tof h9) (sz (by have := cl none (some at_); simp; omega)) fun b10 H10 s10 h10 => ?_
      have hf10 := same_tup ((s8.trans s9).trans s10) hf
      walk_at "go"
      intro b11 H11 s11 h11
      walk_at "go"
      refine w_catT (same_tup s11 h10) h11 (sz (by have := cl none (some at_); have := cl (some (at_ + 1)) none; simp; omega)) fun b12 H12 s12 h12 => ?_
      have S : Same H7 H12 := ((((s8.trans s9).trans s10).trans s11).trans s12)
      refine k _ _ ⟨kk, (el_tup (k := kk) (w := 100) (h := 3) (n := 17) h12 (fun v hv => ?_) ?_).le (by omega) (by omega)⟩ (G7.same S)
      · rcases List.mem_append.mp hv with hv | hv
        · rcases List.mem_append.mp hv with hv | hv
          · exact (elS v (cutV_mem hv)).le (by omega) (by omega)
          · have : v = odd := by simpa using hv
            rw [this]
            exact El.le ⟨dd, hol, hod.same S⟩ (by omega) (by omega)
        · exact (elS v (cutV_mem hv)).le (by omega) (by omega)
      · have := cl none (some at_)
        have := cl (some (at_ + 1)) none
        simp only [List.length_append, List.length_cons, List.length_nil]
        omega
    walk_at "go"
    refine ite2 (fun e => ?_) (fun e => ?_)
    · walk_at "go"
      intro b8 H8 s8 h8
      have hf8 := same_tup s8 hf
      walk_at "go"
      intro b9 H9 s9 h9
      walk_at "go"
      intro b10 H10 n10 s10 h10
      walk_at "go"
      refine w_catT (same_tup (s9.trans s10) h8) (tof h10) (sz (by have := cl none (some at_); simp; omega)) fun b12 H12 s12 h12 => ?_
      have S : Same H7 H12 := (((s8.trans s9).trans s10).trans s12)
      refine k _ _ ⟨true, (el_tup (k := true) (w := 760) (h := 1) (n := 9) h12 (fun v hv => ?_) ?_).le (by omega) (by omega)⟩ (G7.same S)
      · rcases List.mem_append.mp hv with hv | hv
        · exact (elS v (cutV_mem hv)).le (by omega) (by omega)
        · have : v = .ref b9 := by simpa using hv
          rw [this]
          exact (el_tup (n := 8) (same_tup (s10.trans s12) h9) (fun v hv => elS v (cutV_mem hv)) (cl _ _)).le (by omega) (by omega)
      · have := cl none (some at_)
        simp only [List.length_append, List.length_cons, List.length_nil]
        omega
    walk_at "go"
    refine ite2 (fun e => ?_) (fun e => ?_)
    · walk_at "go"
      intro b8 H8 s8 h8
      have hf8 := same_tup s8 hf
      walk_at "go"
      refine w_lc ?_
      walk_at "go"
      intro b9 H9 s9 h9
      walk_at "go"
      refine lg_T (K := K) (a := b9) (p := p) (fun i v _ => ∃ y : Str, Nm 41 y ∧ v = .str y) (fun _ _ _ _ h _ => h) (G7.pur.same (s8.trans s9)) h9 (by have := cl (some at_) (some (at_ + 1)); omega) (fun i x H10 hi g10 Q' q => ?_) (fun D H10 acc n10 g10 hD hT => ?_)
      · obtain ⟨y, hy, rfl⟩ := List.mem_map.mp (cutV_mem (List.mem_of_getElem? hi))
        walk_at "go"
        refine ⟨by rfl, ?_⟩
        walk_at "go"
        have := hys y hy
        exact ⟨p, y, rfl, g10.pur, ⟨by have := this.1; omega, this.2⟩, fun z H11 hz g11 => q _ _ g11 ⟨z, hz, rfl⟩⟩
      obtain ⟨zs, rfl, hzs, hzl⟩ := hT.all
      have hzl : zs.length ≤ 8 := by have := cl (some at_) (some (at_ + 1)); omega
      walk_at "go"
      intro b11 H11 n11 s11 h11
      walk_at "go"
      have t8 : Tu H8 H11 := ((Tu.of s9).trans g10.tu).trans (.of s11)
      refine w_catT (t8.tup h8) (tof h11) (sz (by have := cl none (some at_); simp; omega)) fun b12 H12 s12 h12 => ?_
      have hf12 := (t8.trans (.of s12)).tup hf8
      walk_at "go"
      intro b13 H13 s13 h13
      walk_at "go"
      refine w_catT (same_tup s13 h12) h13 (sz (by have := cl none (some at_); have := cl (some (at_ + 1)) none; simp; omega)) fun b14 H14 s14 h14 => ?_
      have G : Go p H H14 := (((G7.same (s8.trans s9)).trans g10).same ((s11.trans s12).trans (s13.trans s14)))
      refine k _ _ ⟨true, (el_tup (k := true) (w := 412) (h := 0) (n := 24) h14 (fun v hv => ?_) ?_).le (by omega) (by omega)⟩ G
      · rcases List.mem_append.mp hv with hv | hv
        · rcases List.mem_append.mp hv with hv | hv
          · exact (elS v (cutV_mem hv)).le (by omega) (by omega)
          · obtain ⟨z, hz, rfl⟩ := List.mem_map.mp hv
            exact el_str (hzs z hz)
        · exact (elS v (cutV_mem hv)).le (by omega) (by omega)
      · have := cl none (some at_)
        have := cl (some (at_ + 1)) none
        simp only [List.length_append, List.length_map]
        omega
    walk_at "go"
    exact k _ _ ⟨true, (el_tup (n := 8) hf elS (by rw [List.length_map]; exact hyl)).le (by omega) (by omega)⟩ G7
end
end Fz
/-! ### law k01 -/
namespace Fz
open PySem L2
section
variable {P : Program} {w : World} {K : PySem.W.Frag} {mg : Str → Option Value} {base : Heap}
def spLaw (K : PySem.W.Frag) : Sp := fun vs H Q _ => ∃ (a : Addr) (ns : List Int), vs = [.ref a] ∧ SqL K H a (ns.map V.int) ∧ ns.length ≤ 63 ∧ ∀ H', Q (.bl true) H'
theorem told_el {p : Addr} {H : Hp} {v : V} {k : Bool} {w h : Nat} {Q : VK} {E : XK} (e : El K p k w h H v) (hw : w ≤ 100000) (hh : h ≤ 50) (q : ∀ H', Same H H' → Q (.bl true) H') : spTold K [v] H Q E :=
  let ⟨d, l, hd⟩ := e
  ⟨p, v, d, k, rfl, hd, l.le hw hh, q⟩
theorem ok_law (M : Md K mg) {fd : FuncData} (F : FunD K "law" "law" (defArgs s_law) (defBody s_law) (defScope s_law) [] [] (He.ga K "law") fd) : FnG P w K mg base CX0 4 (He.ga K "law") fd ["_law_script"] (spLaw K) := by
  have D__law_purse := ok_law_purse (P := P) (w := w) (base := base) M
  have D__law_told := ok_law_told (P := P) (w := w) (base := base) M
  have D__law_name := ok_law_name (P := P) (w := w) (base := base) M
  have D__law_way := ok_law_way (P := P) (w := w) (base := base) M
  have D__law_bent := ok_law_bent (P := P) (w := w) (base := base) M
  have D__law_odd := ok_law_odd (P := P) (w := w) (base := base) M
  refine F.okG sc_law (fun vs H Q E h => ?_) (fun cdv A outer s H vs Q E hr h => ?_)
  · obtain ⟨a, ns, rfl, _⟩ := h
    rfl
  · obtain ⟨a, ns, rfl, hS, hl, k⟩ := h
    refine ⟨_, PSs.nox (pss_cons (ps_set (i := 1) sc_law.nd rfl (Or.inl rfl) (pe_lstN (pa_cons pe_str (pa_cons pe_str (pa_cons pe_str (pa_cons pe_str (pa_cons pe_str (pa_cons (pe_tupN pa_nil) (pa_cons (pe_op (k_repT (K := K) rfl) (pe_tupN (pa_cons pe_str pa_nil)) pe_int) (pa_cons (pe_op (k_repT (K := K) rfl) (pe_tupN (pa_cons pe_str pa_nil)) pe_int) (pa_cons (pe_tupN (pa_cons pe_str (pa_cons pe_str pa_nil))) (pa_cons (pe_tupN (pa_cons pe_str (pa_cons pe_str pa_nil))) (pa_cons pe_str pa_nil)))))))))))))
 (pss_cons (ps_if (pt_not (pt_val (pe_callB (k_all (K := K) rfl rfl) (by rfl) M.z_all bt_all (pa_cons (pe_lc (own := [("_law_matter", 2)]) (g := (gName 2)) rfl sc_law.nd (k_ilist (K := K) rfl (pv 1)) (blkOk_by (own := [("_law_matter", 2)]) (N := ["_law_script", "_law_fixed", "_law_matter", "_law_k", "_law_purse_here", "_law_turn", "_law_name_here", "_law_way_here"]) (sc := defScope s_law) (by decide +kernel)) (fun _ _ _ _ _ => (pg_name (i := 2) sc_law.nd rfl (Or.inl rfl))) (fun _ _ _ _ _ => pts_nil) (fun _ _ _ _ _ => (pe_cl D__law_told (hr.mono (by decide)) (by rfl) pass0 (pa_cons (pv 2) pa_nil)))) pa_nil))))
 (pss_one (ps_ret pe_bl))
 pss_nil)
 (pss_cons (ps_for PassesOwn.never rfl (pi_range1 (by rfl) M.z_range (pa_cons (pe_callB (call_maxN rfl) (by rfl) M.z_max bt_max (pa_cons pe_int (pa_cons (pe_callB (call_minN rfl) (by rfl) M.z_min bt_min (pa_cons (pe_callB (k_len (K := K) rfl) (by rfl) M.z_len bt_len (pa_cons (pv 0) pa_nil)) (pa_cons pe_int pa_nil))) pa_nil))) pa_nil)) (pg_name (i := 3) sc_law.nd rfl (Or.inl rfl))
 (pss_cons (ps_set (i := 4) sc_law.nd rfl (Or.inl rfl) (pe_cl D__law_purse (hr.mono (by decide)) (by rfl) pass0 (pa_cons (pv 0) (pa_cons (pv 3) pa_nil))))
 (pss_one (ps_for PassesOwn.never rfl (pi_range1 (by rfl) M.z_range (pa_cons pe_int pa_nil)) (pg_name (i := 5) sc_law.nd rfl (Or.inl rfl))
 (pss_cons (ps_par (i := 6) (j := 7) (by rfl) sc_law.nd rfl rfl (by decide) rfl rfl (pa_cons (pe_cl D__law_name (hr.mono (by decide)) (by rfl) pass0 (pa_cons (pv 4) pa_nil)) (pa_cons (pe_cl D__law_way (hr.mono (by decide)) (by rfl) pass0 (pa_cons (pv 4) pa_nil)) pa_nil)) (by rfl))
 (pss_one (ps_for PassesOwn.never rfl (k_ilist (K := K) rfl (pe_lstN (pa_cons (pv 6) (pa_cons (pe_cl D__law_bent (hr.mono (by decide)) (by rfl) pass0 (pa_cons (pv 4) (pa_cons (pv 6) pa_nil))) (pa_cons (pv 6) (pa_cons (pv 7) (pa_cons (pe_cl D__law_odd (hr.mono (by decide)) (by rfl) pass0 (pa_cons (pv 4) pa_nil)) (pa_cons (pe_tupN (pa_cons (pv 6) pa_nil)) (pa_cons (pe_tupN (pa_cons (pv 6) (pa_cons (pv 7) pa_nil))) (pa_cons (pv 7) pa_nil)))))))))) (pg_name (i := 2) sc_law.nd rfl (Or.inl rfl))
 (pss_one (ps_if (pt_not (pt_val (pe_cl D__law_told (hr.mono (by decide)) (by rfl) pass0 (pa_cons (pv 2) pa_nil))))
 (pss_one (ps_ret pe_bl))
 pss_nil)))))))))
 (pss_one (ps_ret pe_bl))))), ?_⟩
    try dsimp only [cxOf, Cx.nox]
    walk_at "go"
    intro a1 H1 n1 s1 h1
    walk_at "go"
    intro a2 H2 n2 s2 h2
    walk_at "go"
    refine w_repT (tof h2) (by simp) (by omega) (by omega) (by simp) ?_
    intro a3 H3 n3 s3 h3
    walk_at "go"
    intro a4 H4 n4 s4 h4
    walk_at "go"
    refine w_repT (tof h4) (by simp) (by omega) (by omega) (by simp) ?_
    intro a5 H5 n5 s5 h5
    walk_at "go"
    intro a6 H6 n6 s6 h6
    walk_at "go"
    intro a7 H7 n7 s7 h7
    walk_at "go"
    intro a8 H8 n8 s8 h8
    walk_at "go"
    have t7 : Same H7 H8 := s8
    have t6 := s7.trans t7
    have t5 := s6.trans t6
    have t4 := s5.trans t5
    have t3 := s4.trans t4
    have t2 := s3.trans t3
    have t1 := s2.trans t2
    have t0 := s1.trans t1
    have els : ∀ v ∈ [V.str "a", .str "z", .str "abcdefgh", .str "abcdefghi", .str "", .ref a1, .ref a3, .ref a5, .ref a6, .ref a7, .str "ab c"], El K a8 true 1000 1 H8 v := by
      intro v hv
      have st : ∀ {x : Str}, Nm 9 x → El K a8 true 1000 1 H8 (.str x) := fun h => (el_str h).le (by omega) (by omega)
      have tp : ∀ {b : Addr} {xs : List V}, SqT K H8 b xs → (∀ v ∈ xs, ∃ x, v = .str x ∧ Nm 9 x) → xs.length ≤ 7 → El K a8 true 1000 1 H8 (.ref b) := fun hs hx hn =>
        (el_tup (w := 92) (h := 0) (n := 7) hs (fun v hv => by
          obtain ⟨x, rfl, h⟩ := hx v hv
          exact el_str h) hn).le (by omega) (by omega)
      have one : ∀ v ∈ (List.replicate 7 [V.str "a"]).flatten, ∃ x, v = .str x ∧ Nm 9 x := by
        intro v hv
        have : v = .str "a" := by simpa using hv
        exact ⟨"a", this, by decide +kernel⟩
      simp only [List.mem_cons, List.not_mem_nil, or_false] at hv
      rcases hv with rfl | rfl | rfl | rfl | rfl | rfl | rfl | rfl | rfl | rfl | rfl
      · exact st (by decide +kernel)
      · exact st (by decide +kernel)
      · exact st (by decide +kernel)
      · exact st (by decide +kernel)
      · exact st (by decide +kernel)
      · exact tp (tof (t1 _ _ h1)) (fun v hv => by cases hv) (by simp)
      · exact tp (tof (t3 _ _ h3)) (fun v hv => one v (by simpa using hv)) (by decide)
      · exact tp (tof (t5 _ _ h5)) (fun v hv => one v (by simpa using hv)) (by decide)
      · exact tp (tof (t6 _ _ h6)) (fun v hv => by
          simp only [List.mem_cons, List.not_mem_nil, or_false] at hv
          rcases hv with rfl | rfl <;> exact ⟨_, rfl, by decide +kernel⟩) (by simp)
      · exact tp (tof (t7 _ _ h7)) (fun v hv => by
          simp only [List.mem_cons, List.not_mem_nil, or_false] at hv
          rcases hv with rfl | rfl <;> exact ⟨_, rfl, by decide +kernel⟩) (by simp)
      · exact st (by decide +kernel)
    refine w_lc ?_
    walk_at "go"
    refine lc_L (K := K) (a := a8) (fun i v _ => v = .bl ((fun _ => true) i)) (mon_const _) (lof h8) (by simp) (fun i x H9 hi s9 Q' q => ?_) (fun D H9 acc n9 s9 hD hA => ?_)
    · walk_at "go"
      refine ⟨by rfl, ?_⟩
      walk_at "go"
      exact told_el ((els x (List.mem_of_getElem? hi)).same s9) (by omega) (by omega) fun H10 s10 => q _ _ s10 rfl
    have e := LcT.map V.bl (fun _ => true) hA
    subst e
    walk_at "go"
    refine w_all (lof hD) ?_
    rw [all_true]
    have S9 := t0.trans s9
    have hS9 := S9.seq hS
    walk_at "go"
    refine w_for ?_
    walk_at "go"
    rw [List.length_map]
    have hb : ∀ z : Int, z = (if (if (8 : Int) < (ns.length : Int) then (8 : Int) else (ns.length : Int)) > 2 then (if (8 : Int) < (ns.length : Int) then (8 : Int) else (ns.length : Int)) else 2) → 0 ≤ z ∧ z ≤ 8 := by
      intro z hz
      subst hz
      split <;> split <;> omega
    have hb := hb _ rfl
    generalize (if (if (8 : Int) < (ns.length : Int) then (8 : Int) else (ns.length : Int)) > 2 then (if (8 : Int) < (ns.length : Int) then (8 : Int) else (ns.length : Int)) else 2) = z at hb ⊢
    refine ⟨z, rfl, by omega, by omega, ?_⟩
    refine for_range (lo := 0) (n := z.toNat) (fun i σ H1 => ∃ v2 v3 v4 v5 v6 v7, σ = [some (.ref a), some (.ref a8), v2, v3, v4, v5, v6, v7] ∧ Same H H1) ⟨_, _, _, _, _, _, rfl, S9⟩ ?_ ?_
    · rintro i σ I1 hi ⟨v2, v3, v4, v5, v6, v7, rfl, s1⟩
      walk_at "go"
      refine ⟨a, ns, i, by rw [Int.zero_add]; rfl, s1.seq hS, hl, by omega, fun p I2 n2 s2 hp => ?_⟩
      walk_at "go"
      refine w_for ?_
      walk_at "go"
      refine ⟨9, rfl, by omega, by omega, ?_⟩
      refine for_range (lo := 0) (n := 9) (fun j σ I3 => ∃ v2 v5 v6 v7, σ = [some (.ref a), some (.ref a8), v2, some (.int (0 + (i : Int))), some (.ref p), v5, v6, v7] ∧ Go p I2 I3) ⟨_, _, _, _, rfl, Go.refl hp⟩ ?_ ?_
      · rintro j σ I3 hj ⟨v2, v5, v6, v7, rfl, g3⟩
        walk_at "go"
        refine ⟨p, rfl, g3.pur, fun x I4 hx hc g4 => ?_⟩
        walk_at "go"
        refine ⟨p, rfl, g4.pur, fun way I5 ⟨kw, hw⟩ g5 => ?_⟩
        walk_at "go"
        refine w_for ?_
        walk_at "go"
        refine ⟨p, x, rfl, g5.pur, ⟨by omega, hc⟩, fun y I6 hy g6 => ?_⟩
        walk_at "go"
        refine ⟨p, rfl, g6.pur, fun odd I7 ⟨od, ok, ol, ho⟩ g7 => ?_⟩
        have hw := (hw.go g6).go g7
        have pu7 := g7.pur
        walk_at "go"
        intro b8 I8 m8 u8 e8
        walk_at "go"
        intro b9 I9 m9 u9 e9
        walk_at "go"
        intro b10 I10 m10 u10 e10
        have U : Same I7 I10 := (u8.trans u9).trans u10
        have hw := hw.same U
        have nx : Nm 9 x := ⟨hx, hc⟩
        have els : ∀ v ∈ [V.str x, .str y, .str x, way, odd, .ref b8, .ref b9, way], ∃ k, El K p k 90000 40 I10 v := by
          intro v hv
          simp only [List.mem_cons, List.not_mem_nil, or_false] at hv
          rcases hv with rfl | rfl | rfl | rfl | rfl | rfl | rfl | rfl
          · exact ⟨true, (el_str nx).le (by omega) (by omega)⟩
          · exact ⟨true, (el_str hy).le (by omega) (by omega)⟩
          · exact ⟨true, (el_str nx).le (by omega) (by omega)⟩
          · exact ⟨kw, hw.le (by omega) (by omega)⟩
          · exact ⟨ok, El.le ⟨od, ol, ho.same U⟩ (by omega) (by omega)⟩
          · refine ⟨true, (el_tup (w := 92) (h := 0) (n := 1) (tof ((u9.trans u10) _ _ e8)) (fun v hv => ?_) (by simp)).le (by omega) (by omega)⟩
            have : v = .str x := by simpa using hv
            rw [this]
            exact el_str nx
          · refine ⟨kw, (el_tup (k := kw) (w := 20000) (h := 6) (n := 2) (tof (u10 _ _ e9)) (fun v hv => ?_) (by simp)).le (by omega) (by omega)⟩
            simp only [List.mem_cons, List.not_mem_nil, or_false] at hv
            rcases hv with rfl | rfl
            · exact (el_str nx).le (by omega) (by omega)
            · exact hw
          · exact ⟨kw, hw.le (by omega) (by omega)⟩
        have G10 : Go p I2 I10 := ((((g3.trans g4).trans g5).trans g6).trans g7).same U
        refine ⟨b10, rfl, ⟨_, lof e10⟩, ?_⟩
        refine for_list (K := K) (a := b10) (xs := [V.str x, .str y, .str x, way, odd, .ref b8, .ref b9, way]) (fun m σ I11 => ∃ v2, σ = [some (.ref a), some (.ref a8), v2, some (.int (0 + (i : Int))), some (.ref p), some (.int (0 + (j : Int))), some (.str x), some way] ∧ Same I10 I11) ⟨_, rfl, Same.refl _⟩ ?_ ?_ ?_
        · rintro m σ I11 hm ⟨v2, rfl, s⟩
          exact lof (s _ _ e10)
        · rintro m v σ I11 hv ⟨v2, rfl, s⟩
          obtain ⟨kk, he⟩ := els v (List.mem_of_getElem? hv)
          walk_at "go"
          refine told_el (he.same s) (by omega) (by omega) fun I12 s12 => ?_
          walk_at "go"
          exact ⟨_, rfl, s.trans s12⟩
        · rintro σ I11 ⟨v2, rfl, s⟩
          walk_at "go"
          exact ⟨_, _, _, _, rfl, G10.same s⟩
      · rintro σ I3 ⟨v2, v5, v6, v7, rfl, g3⟩
        walk_at "go"
        refine ⟨_, _, _, _, _, _, rfl, fun b o e => ?_⟩
        have e1 := s1 b o e
        exact g3.keep b o (s2 b o e1) (ne_of_none e1 n2)
    · rintro σ I1 ⟨v2, v3, v4, v5, v6, v7, rfl, s1⟩
      walk_at "go"
      exact k _
end
end Fz
namespace Fz
open PySem PySem.Spec PyProof.Rows L2
def dd_is_word : He.DefD := ⟨("is_word", none), "is_word", "is_word", defArgs s_is_word, defBody s_is_word, defScope s_is_word, [], []⟩
def dd_is_path : He.DefD := ⟨("is_path", none), "is_path", "is_path", defArgs s_is_path, defBody s_is_path, defScope s_is_path, [], []⟩
def dd_law_purse : He.DefD := ⟨("_law_purse", none), "_law_purse", "_law_purse", defArgs s_law_purse, defBody s_law_purse, defScope s_law_purse, [], []⟩
def dd_law_take : He.DefD := ⟨("_law_take", none), "_law_take", "_law_take", defArgs s_law_take, defBody s_law_take, defScope s_law_take, [], []⟩
def dd_law_is_word : He.DefD := ⟨("_law_is_word", none), "_law_is_word", "_law_is_word", defArgs s_law_is_word, defBody s_law_is_word, defScope s_law_is_word, [], []⟩
def dd_law_is_path : He.DefD := ⟨("_law_is_path", none), "_law_is_path", "_law_is_path", defArgs s_law_is_path, defBody s_law_is_path, defScope s_law_is_path, [], []⟩
def dd_law_name : He.DefD := ⟨("_law_name", none), "_law_name", "_law_name", defArgs s_law_name, defBody s_law_name, defScope s_law_name, [], []⟩
def dd_law_bent : He.DefD := ⟨("_law_bent", none), "_law_bent", "_law_bent", defArgs s_law_bent, defBody s_law_bent, defScope s_law_bent, [], []⟩
def dd_law_odd : He.DefD := ⟨("_law_odd", none), "_law_odd", "_law_odd", defArgs s_law_odd, defBody s_law_odd, defScope s_law_odd, [], []⟩
def dd_law_way : He.DefD := ⟨("_law_way", none), "_law_way", "_law_way", defArgs s_law_way, defBody s_law_way, defScope s_law_way, [], []⟩
def dd_law_told : He.DefD := ⟨("_law_told", none), "_law_told", "_law_told", defArgs s_law_told, defBody s_law_told, defScope s_law_told, [], []⟩
def dd_law : He.DefD := ⟨("law", none), "law", "law", defArgs s_law, defBody s_law, defScope s_law, [], []⟩
def fnl : List He.DefD := [dd_is_word, dd_is_path, dd_law_purse, dd_law_take, dd_law_is_word, dd_law_is_path, dd_law_name, dd_law_bent, dd_law_odd, dd_law_way, dd_law_told, dd_law]
def fal : List He.Fa := [.free "isinstance", .free "bool", .free "str", .free "tuple", .free "list", .free "len", .free "all", .free "min", .free "max", .free "range", .free "repr", .str "LETTERS" "abcdefghijklmnopqrstuvwxyz", .int "MOST_LETTERS" 8, .int "MOST_NAMES" 6, .glo "is_word", .glo "is_path", .glo "_law_purse", .glo "_law_take", .glo "_law_is_word", .glo "_law_is_path", .glo "_law_name", .glo "_law_bent", .glo "_law_odd", .glo "_law_way", .glo "_law_told", .glo "law"]
abbrev R : PySem.W.OpenRow := PySem.W.OpenLaw.row PySem.Challenge.rw_farfiles_k01_words_and_paths_of_any_kind
abbrev hk : PySem.W.Hook := He.hookD 4 fal fnl
def ob (s : PySem.W.SharedT) : He.AlD := He.obsDG 4 fal fnl (HandSHeadRun.getT s)
theorem ob_eq (s : PySem.W.SharedT) : ob s = hk.obs s.abs := He.obsDG_eq (HandSHeadRun.getT_eq s)
def loose0 : List PySem.Str := ["__name__", "LETTERS", "MOST_LETTERS", "MOST_NAMES", "is_word", "is_path", "_law_purse", "_law_take", "_law_is_word", "_law_is_path", "_law_name", "_law_bent", "_law_odd", "_law_way", "_law_told"]
def loose : List PySem.Str := loose0
theorem run (w : World) : HandSHeadRun.RunEq R (PySem.W.view R.prog [16]) hk ob 20000 loose w := by
  intro os
  kernel_rfl
theorem md_of {K : PySem.W.Frag} {h : Heap} {mg : Str → Option Value} (X : K.In h) (G : h.Ns mainGlobals mg) (c : He.SaysD fal fnl K) : Md K mg where
  z_isinstance := He.free_ok X G (c.fact 0 (f := .free "isinstance") rfl)
  z_bool := He.free_ok X G (c.fact 1 (f := .free "bool") rfl)
  z_str := He.free_ok X G (c.fact 2 (f := .free "str") rfl)
  z_tuple := He.free_ok X G (c.fact 3 (f := .free "tuple") rfl)
  z_list := He.free_ok X G (c.fact 4 (f := .free "list") rfl)
  z_len := He.free_ok X G (c.fact 5 (f := .free "len") rfl)
  z_all := He.free_ok X G (c.fact 6 (f := .free "all") rfl)
  z_min := He.free_ok X G (c.fact 7 (f := .free "min") rfl)
  z_max := He.free_ok X G (c.fact 8 (f := .free "max") rfl)
  z_range := He.free_ok X G (c.fact 9 (f := .free "range") rfl)
  z_repr := He.free_ok X G (c.fact 10 (f := .free "repr") rfl)
  c_LETTERS := He.str_ok X G (c.fact 11 (f := .str "LETTERS" "abcdefghijklmnopqrstuvwxyz") rfl)
  c_MOST_LETTERS := He.int_ok X G (c.fact 12 (f := .int "MOST_LETTERS" 8) rfl)
  c_MOST_NAMES := He.int_ok X G (c.fact 13 (f := .int "MOST_NAMES" 6) rfl)
  g_is_word := He.glo_ok X G (c.fact 14 (f := .glo "is_word") rfl)
  d_is_word := c.def_ 0 (d := dd_is_word) rfl
  g_is_path := He.glo_ok X G (c.fact 15 (f := .glo "is_path") rfl)
  d_is_path := c.def_ 1 (d := dd_is_path) rfl
  g_law_purse := He.glo_ok X G (c.fact 16 (f := .glo "_law_purse") rfl)
  d_law_purse := c.def_ 2 (d := dd_law_purse) rfl
  g_law_take := He.glo_ok X G (c.fact 17 (f := .glo "_law_take") rfl)
  d_law_take := c.def_ 3 (d := dd_law_take) rfl
  g_law_is_word := He.glo_ok X G (c.fact 18 (f := .glo "_law_is_word") rfl)
  d_law_is_word := c.def_ 4 (d := dd_law_is_word) rfl
  g_law_is_path := He.glo_ok X G (c.fact 19 (f := .glo "_law_is_path") rfl)
  d_law_is_path := c.def_ 5 (d := dd_law_is_path) rfl
  g_law_name := He.glo_ok X G (c.fact 20 (f := .glo "_law_name") rfl)
  d_law_name := c.def_ 6 (d := dd_law_name) rfl
  g_law_bent := He.glo_ok X G (c.fact 21 (f := .glo "_law_bent") rfl)
  d_law_bent := c.def_ 7 (d := dd_law_bent) rfl
  g_law_odd := He.glo_ok X G (c.fact 22 (f := .glo "_law_odd") rfl)
  d_law_odd := c.def_ 8 (d := dd_law_odd) rfl
  g_law_way := He.glo_ok X G (c.fact 23 (f := .glo "_law_way") rfl)
  d_law_way := c.def_ 9 (d := dd_law_way) rfl
  g_law_told := He.glo_ok X G (c.fact 24 (f := .glo "_law_told") rfl)
  d_law_told := c.def_ 10 (d := dd_law_told) rfl
  g_law := He.glo_ok X G (c.fact 25 (f := .glo "law") rfl)
  d_law := c.def_ 11 (d := dd_law) rfl
theorem facts {P : Program} {w : World} {K : PySem.W.Frag} {h : Heap} {mg : Str → Option Value} {f : Addr} (X : K.In h) (G : h.Ns mainGlobals mg) (hfa : mg ("law" : Str) = some (.ref f)) (c : He.SaysD fal fnl K) :
    ∃ fd : FuncData, (∀ (s : Shared) (v : Value), BindsTo s fd ⟨[v], []⟩ [("_law_script", v)]) ∧ ∀ base : Heap, K.In base → base.Ns mainGlobals mg → FnG P w K mg base CX0 4 f fd ["_law_script"] (spLaw K) := by
  have M := md_of X G c
  have e := hfa.symm.trans M.g_law
  cases e
  obtain ⟨fd, F⟩ := M.d_law
  have b := FunD.bindsA (ps := ["_law_script"]) F fun _ _ _ _ _ _ us hl => match us, hl with | [_], _ => rfl
  exact ⟨fd, fun s v => b s [v] rfl, fun base _ _ => ok_law M F⟩
end Fz
open PySem PySem.W PySem.Calls PyProof.Rows
set_option maxRecDepth 100000 in
set_option maxHeartbeats 0 in
theorem PySem.Challenge.cw_farfiles_k01_words_and_paths_of_any_kind_holds : PySem.Challenge.rw_farfiles_k01_words_and_paths_of_any_kind.Holds := by
  w_on; o_law
  refine HandSHeadRun.head_any (r := OpenLaw.row PySem.Challenge.rw_farfiles_k01_words_and_paths_of_any_kind) (q := view (OpenLaw.row PySem.Challenge.rw_farfiles_k01_words_and_paths_of_any_kind).prog [16]) (H := Fz.hk) (ob := Fz.ob) (M := 20000) (loose := Fz.loose) (d := HandSHeadRun.topDef (OpenLaw.row PySem.Challenge.rw_farfiles_k01_words_and_paths_of_any_kind).prog 16) (kwd := []) Fz.ob_eq
    (by kernel_rfl) (fun s => by kernel_rfl) Fz.run (by kernel_rfl) (by kernel_rfl) (by kernel_rfl) (by rfl) (by first | assumption | decide +kernel) (by decide +kernel) ⟨rfl, rfl, rfl, rfl, rfl, by decide +kernel⟩ ?hw ?hc
  case hw => w_witness2
  case hc =>
    refine Fz.walk_ofG (l := PySem.Challenge.rw_farfiles_k01_words_and_paths_of_any_kind) (n := 63) (k := 4) (x := "_law_script") (CX := L2.CX0) rfl (by decide) (by kernel_rfl) ⟨⟨rfl, by decide, by decide⟩, rfl⟩ ?F (fun _ _ _ _ z => z)
    intro w mg fa h Y G hmg0
    obtain ⟨K, KX, c⟩ := Y
    have hmg : mg ("law" : PySem.Str) = some (.ref fa) := by
      have e : (HandSHeadRun.topDef (OpenLaw.row PySem.Challenge.rw_farfiles_k01_words_and_paths_of_any_kind).prog 16).name = ("law" : PySem.Str) := by kernel_rfl
      rw [← e]
      exact hmg0
    obtain ⟨fd, hb, hF⟩ := Fz.facts (P := (PySem.Challenge.rw_farfiles_k01_words_and_paths_of_any_kind).prog) (w := w) KX G hmg c
    exact ⟨K, fd, Fz.spLaw K, KX, hb, fun H a ns hl _ hS => ⟨a, ns, rfl, hS, hl, fun _ => rfl⟩, hF⟩
