import PyProof.Rows.All
import Wide.All
import OpenK.AllK
import Wide.FinOn
import HandS.ForMost
import HandS.TupAny
import KE.KDictPairs
import KE.KeyNested
import HandS.Lambda
import HandS.Style
import HandS.Flow
import HandS.Zip
import HandS.TupSets
import KE.SortData
import HandS.Wide
import KE.DataEq
import KE.DataCmp
import KE.DataIsa
import HandS.IsInst
import HandS.WordsDict
import HandS.More
import PyProof.AutoSeq1
import HandS.List
import HandS.Dict
import PyProof.ReprRoads
import PyProof.CallFns
import HandS.HeadEnd
import HandS.HeadHook2
import HandS.Defaults
import HandS.Words
import HandS.Head0
import HandS.Head1
import HandS.Head2
import HandS.HeadHook1
import KE.KStateDown
import HandS.WordsExc
import HandS.Keys
import PyProof.StrLawsRepr
import PyProof.FitsInt
import HandS.TupMul
import HandS.ListItems
import HandS.Strs
import HandS.NoneIn
import KE.KDictZip
import HandS.Small
import HandS.Conv
import KE.KDictKeyed
import PyProof.DictRoadsH
import HandS.DictComp
import PyProof.Draws
import KE.GoesMore
import HandS.FStr
import HandS.Text
import PySem.Challenge.RW_keyrates_k54_texts_of_plans
set_option Elab.async false
set_option linter.all false
set_option maxRecDepth 100000
set_option maxHeartbeats 8000000
/-! DY: tuples that are known to have no dict of their own. -/
namespace DY
open PySem PySem.Spec PyProof.Rows L2
/-- a tuple, known to its object, which has no dict -/
def TupP (K : PySem.W.Frag) (P : Hp) (a : Addr) (xs : List V) : Prop :=
  (∃ o, P a = some (.frz o (.tup xs)) ∧ o.dict = none) ∨ ∃ (o : Obj) (its : Array Value) (n : Nat), K.lookup a = some o ∧ o.cls = .type "tuple" ∧ o.dict = none ∧ o.data = .seq its n ∧ its.size ≤ sizeLine ∧ Vals xs its.toList
theorem TupP.sq {K : PySem.W.Frag} {P : Hp} {a : Addr} {xs : List V} (h : TupP K P a xs) : SqT K P a xs := by
  rcases h with ⟨o, h, _⟩ | ⟨o, its, n, h1, h2, _, h3⟩
  · exact .inl (.inr ⟨o, h⟩)
  · exact .inr ⟨o, its, n, h1, h2, h3⟩
theorem TupP.mono {K : PySem.W.Frag} {P P' : Hp} {a : Addr} {xs : List V} (h : TupP K P a xs) (s : ∀ a o, P a = some o → P' a = some o) : TupP K P' a xs :=
  h.imp (fun ⟨o, h1, h2⟩ => ⟨o, s _ _ h1, h2⟩) id
theorem TupP.new {K : PySem.W.Frag} {P : Hp} {a : Addr} {xs : List V} {o : Obj} (h : P a = some (.frz o (.tup xs))) (hd : o.dict = none) : TupP K P a xs := .inl ⟨o, h, hd⟩
section
variable {X : Cx} {pins : List (Addr × Obj)} {σ : L2.St} {H : Hp} {s : Shared}
theorem plain_of {a : Addr} {xs : List V} (I : Inv X pins σ H s) (h : TupP X.K H a xs) : ∃ its : List Value, Vals xs its ∧ PlainSeq "tuple" s.heap a its.toArray ∧ xs.length ≤ sizeLine := by
  rcases h with ⟨o, h1, h2⟩ | ⟨o, its, n, h1, h2, h3, h4, h5, h6⟩
  · obtain ⟨e, hz, its, r, o', e', hc, n, hd⟩ := I.hok a _ h1
    rw [e] at e'; cases e'
    exact ⟨its, r, ⟨o, n, e, hc, h2, hd⟩, hz⟩
  · refine ⟨its.toList, h6, ⟨o, n, I.kIn a o h1, h2, h3, by simpa using h4⟩, ?_⟩
    rw [h6.length, Array.length_toList]; exact h5
/-- a new tuple -/
abbrev NewT (H : Hp) (xs : List V) (Q : VK) : Prop := ∀ (p : Addr) (o : Obj), H p = none → o.dict = none → Q (.ref p) (upd H p (.frz o (.tup xs)))
theorem laidT {xs : List V} {its : List Value} {h' : Heap} {tk : Nat} {Q : VK} (I : Inv X pins σ H { s with heap := h', toks := tk }) (r : Vals xs its) (hz : xs.length ≤ sizeLine) (q : NewT H xs Q) :
    EP X pins σ Q (.ref h'.objs.size) { s with heap := h'.push { cls := .type "tuple", data := .seq its.toArray }, toks := tk } := by
  have hf : H h'.objs.size = none := I.hok.fresh (Nat.le_refl _)
  refine ⟨.ref h'.objs.size, upd H h'.objs.size (.frz { cls := .type "tuple", data := .seq its.toArray } (.tup xs)), I.laid (t' := tk) (fun b u e => Heap.get?_push_of_some _ e) (Nat.le_refl _) ?_, rfl, q _ _ hf rfl⟩
  exact ⟨Heap.get?_push_size _ rfl, hz, its, r, ⟨_, Heap.get?_push_size _ rfl, rfl, _, rfl⟩⟩
variable {es : List Expr} {t : TA} {pos : Pos}
def tTupF (t : TA) : TE := fun σ H Q => t σ H fun xs H1 => xs.length ≤ sizeLine ∧ NewT H1 xs Q
theorem pe_tupF {k : Nat} (h : PA X es t) : PE X (.Tuple es k pos) (tTupF t) := by
  refine ⟨fun pins s σ H Q I hq => wpAny_Tuple_spliced (thn (h.run pos pins s σ H _ I hq) fun us s1 ⟨xs, H1, I1, r, z, q⟩ => ⟨by rw [← r.length]; exact z, ?_⟩)⟩
  exact laidT (s := s1) (h' := s1.heap) (tk := s1.toks) I1 r z q
/-- tuple(x) -/
def rTupleF (K : PySem.W.Frag) : List V → Hp → VK → Prop := fun vs H Q => ∃ p ys, vs = [.ref p] ∧ ((SqL K H p ys ∧ NewT H ys Q) ∨ (SqT K H p ys ∧ Q (.ref p) H))
theorem cr_tupleF : CallR X (.type "tuple") (rTupleF X.K) := by
  intro pins s σ H vs us Q I r h
  obtain ⟨p, ys, rfl, h⟩ := h
  obtain rfl := Vals.ref1 r
  rcases h with ⟨hq, q⟩ | ⟨hq, q⟩
  · obtain ⟨its, r', pl, hz⟩ := I.list hq
    refine call_tuple_list pl.isList (fun h' kp => laidT (h' := h') (tk := s.toks) (I.kept (t' := s.toks) kp) r' hz q) (by have := r'.length; simp only [List.size_toArray]; omega)
  · obtain ⟨its, r', pl, hz⟩ := I.tuple hq
    exact call_tuple_same pl ⟨.ref p, H, I, rfl, q⟩
/-- t + u -/
def rCatF (K : PySem.W.Frag) : R2 := fun x y H Q => ∃ a b xs ys, x = .ref a ∧ y = .ref b ∧ SqT K H a xs ∧ SqT K H b ys ∧ xs.length + ys.length ≤ sizeLine ∧
  (xs = [] → Q (.ref b) H) ∧ (xs ≠ [] → ys = [] → Q (.ref a) H) ∧ (xs ≠ [] → ys ≠ [] → NewT H (xs ++ ys) Q)
theorem op_catF : OpR X (binaryOp .Add) (rCatF X.K) := by
  intro pins s σ H x y v u Q I rx ry h
  obtain ⟨a, b, xs, ys, rfl, rfl, ha, hb, hz, q0, q1, q2⟩ := h
  obtain rfl : v = .ref a := rx
  obtain rfl : u = .ref b := ry
  obtain ⟨its, r1, p1, _⟩ := I.tuple ha
  obtain ⟨its2, r2, p2, _⟩ := I.tuple hb
  by_cases hx : xs = []
  · subst hx
    obtain rfl := Vals.zero r1
    exact cat_tup0 p1 p2 ⟨.ref b, H, I, rfl, q0 rfl⟩
  · have hv : its ≠ [] := fun e => hx ((Vals.nil_iff r1).mp e)
    refine HT.cat_tup p1 p2 hv (fun e => ⟨.ref a, H, I, rfl, q1 hx ((Vals.nil_iff r2).mp e)⟩) (fun e => ?_) (by rw [← r1.length, ← r2.length]; exact hz)
    exact laidT (h' := s.heap) (tk := s.toks) I (r1.append r2) (by simpa using hz) (q2 hx fun z => e ((Vals.nil_iff r2).mpr z))
/-- t[lo:hi] -/
def rSlF (K : PySem.W.Frag) : V → Option Int → Option Int → Hp → VK → Prop := fun x lo hi H Q => ∃ a xs, x = .ref a ∧ SqT K H a xs ∧
  (HT.sIx xs.length 0 lo = 0 ∧ HT.sIx xs.length xs.length hi = xs.length → Q (.ref a) H) ∧ (¬ (HT.sIx xs.length 0 lo = 0 ∧ HT.sIx xs.length xs.length hi = xs.length) → NewT H (cutV xs lo hi) Q)
theorem sl_tupF : SlR X (rSlF X.K) := by
  intro pins s σ H x v vl vu lo hi sl Q I rx hs pl pu h
  obtain ⟨a, xs, rfl, hx, q1, q2⟩ := h
  obtain rfl : v = .ref a := rx
  obtain ⟨its, r, ht, hz⟩ := I.tuple hx
  have hlen : its.toArray.size = xs.length := by rw [List.size_toArray]; exact r.length.symm
  refine ⟨"tuple", _, PyProof.Rows.slot_tuple_getitem.lookup, ht.typeIs, ?_⟩
  by_cases hw : HT.sIx xs.length 0 lo = 0 ∧ HT.sIx xs.length xs.length hi = xs.length
  · exact getItem_tuple_whole ht hs pl pu (by rw [hlen]; exact hw) ⟨.ref a, H, I, rfl, q1 hw⟩
  · refine HT.getItem_tuple_cut ht hs pl pu (by rw [hlen]; exact hw) ?_ (by rw [hlen]; exact hz)
    rw [hlen]
    have e : (its.toArray.toList.drop (HT.sIx xs.length 0 lo)).take (HT.sIx xs.length xs.length hi - HT.sIx xs.length 0 lo) = (its.drop (HT.sIx xs.length 0 lo)).take (HT.sIx xs.length xs.length hi - HT.sIx xs.length 0 lo) := rfl
    rw [e]
    exact laidT (h' := s.heap) (tk := s.toks) I ((r.drop _).take _) (Nat.le_trans (cutV_length xs lo hi) hz) (q2 hw)
end
end DY
/-! DZ: promises of defs that are called where no repr runs. -/
namespace DZ
open PySem PySem.Spec PyProof.Rows L2
/-- as FnOk, where the guards of repr are free -/
structure FnG (P : Program) (w : World) (K : PySem.W.Frag) (mg : Str → Option Value) (base : Heap) (CX : CXT) (k : Nat) (f : Addr) (fd : FuncData) (ps : List Str) (sp : Sp) : Prop where
  len : ∀ vs H Q E, sp vs H Q E → vs.length = ps.length
  run : ∀ (A : Around) (outer : List Env) (s : Shared) (H : Hp) (args : Args) (us : List Value) (vs : List V) (Q : VK) (E : XK), Room k A → A.guards = some [] → Env0 P w K mg base A outer s H →
    BindsTo s fd args (ps.zip us) → Vals vs us → sp vs H Q E → codeAny (model P w) A (.call (.ref f) args) (CR CX outer P w H s Q E) s
section
variable {P : Program} {w : World} {K : PySem.W.Frag} {mg : Str → Option Value} {base : Heap} {CX : CXT} {j k : Nat} {f : Addr} {fd : FuncData} {ps : List Str} {sp sp' : Sp}
theorem FnG.mono (F : FnG P w K mg base CX j f fd ps sp) (h : j ≤ k) : FnG P w K mg base CX k f fd ps sp := ⟨F.len, fun A o s H a us vs Q E hr hg => F.run A o s H a us vs Q E (hr.mono h) hg⟩
theorem FnG.imp (F : FnG P w K mg base CX k f fd ps sp) (h : ∀ vs H Q E, sp' vs H Q E → sp vs H Q E) : FnG P w K mg base CX k f fd ps sp' :=
  ⟨fun vs H Q E q => F.len vs H Q E (h _ _ _ _ q), fun A o s H a us vs Q E hr hg e0 b r q => F.run A o s H a us vs Q E hr hg e0 b r (h _ _ _ _ q)⟩
theorem fnG_of {x qual : Str} {stm : Stmt} {N : List Str} (F : Fun K x qual stm f fd) (Sc : FnScope N ps (defScope stm)) (len : ∀ vs H Q E, sp vs H Q E → vs.length = ps.length)
    (hbody : ∀ (cdv : Value) (A : Around) (outer : List Env) (s : Shared) (H : Hp) (vs : List V) (Q : VK) (E : XK), Room k (A.deeper (envOfC qual (defScope stm) s.heap.objs.size f cdv)) → A.guards = some [] → sp vs H Q E →
      ∃ t, PSs (cxOf CX P w K mg base N qual (defScope stm) f cdv A outer s H E) (defBody stm) t ∧ t { nx := fun _ H' => Q .non H', rt := Q } (L2.start N vs) H) : FnG P w K mg base CX (k + 1) f fd ps sp := by
  obtain ⟨oc, od, kV, doc, pm, an, cdv, ct, osl, rfl, lk, hcd⟩ := F.ex
  refine ⟨len, fun A outer s H args us vs Q E hr hgd e0 hb r hsp => ?_⟩
  have up : ∀ b o, base.get? b = some o → s.heap.get? b = some o := fun b o e => (e0.bs b o e).1
  have KX : K.In s.heap := e0.mod.kin.keeps up
  obtain ⟨t, ht, hq⟩ := hbody cdv A outer s H vs Q E (hr.deeper _) hgd hsp
  refine codeAny_call_function hr.depth (KX _ _ lk) rfl Sc.co Sc.gen rfl (PySem.W.codeRec_of KX hcd) (hb _ _ _ _ (wpAny_newFunctionEnv_cells Sc.kind (fun ⟨n, v⟩ hy => ?_) fun env he s1 x => ?_))
  · rcases Sc.par n (List.of_mem_zip hy).1 with q | q
    · left; exact q
    · right; exact ⟨q, PySem.W.cellsFrom_some _ _ _ (.inl q)⟩
  · subst he
    refine ⟨(e0.mod.nolimit.keeps up).keeps x.toInCall.keep, codeAny_func (wpAny_mono (ht.run [] s1 (L2.start N vs) H _ (inv_start Sc hr.hd e0 (len _ _ _ _ hsp) r x) hq) (fun fl s' hs => ?_) fun e s' hs => hs)⟩
    cases fl with
    | ret u => obtain ⟨v, σ', H', J, rv, q⟩ := hs; exact ⟨v, H', J.os, J.bare, J.base, J.hok, rv, q⟩
    | next => obtain ⟨σ', H', J, q⟩ := hs; exact ⟨V.non, H', J.os, J.bare, J.base, J.hok, rfl, q⟩
    | brk => obtain ⟨_, _, _, q⟩ := hs; exact q.elim
    | cont => obtain ⟨_, _, _, q⟩ := hs; exact q.elim
end
section
variable {X : Cx} {CX : CXT} {k : Nat} {f : Addr} {fd : FuncData} {ps ks : List Str} {sp : Sp} {E : XK} {x : Str} {p pos : Pos} {e : Expr} {es : List Expr} {t tk : TA} {kws : List Keyword}
theorem pe_callG (F : FnG X.prog X.w X.K X.mg X.base CX k f fd ps sp) (hr : Room k X.A) (hgd : X.A.guards = some []) (hg : Gl X x) (hm : X.mg x = some (.ref f)) (hk : PySem.W.keepIn X.K (.ref f) = true) (hb : Binds X.K fd ps []) (hx : Passes CX X E)
    (ha : PA X (e :: es) t) (hdb : (x == ("__debug__" : Str)) = false) (he : starEach (e :: es) X.env = (false, eval e X.env) :: starEach es X.env) (hpl : (backTo pos (starEach es X.env)).any (·.1) = false) :
    PE X (.Call (.Name x p) (e :: es) [] pos) (fun σ H Q => t σ H fun vs H1 => sp vs H1 Q E) := by
  refine ⟨fun pins s σ H Q I h => wpAny_Call_Name_kw (ld_glob I hg hm (PySem.W.callWith_K (h₀ := X.base) I.ok.mod.kin hk (thn (ha.run pos pins s σ H _ I h) fun us s1 ⟨vs, H1, I1, r, q⟩ => ⟨I1.kIn, ?_⟩) he hpl) hdb)⟩
  have hl : us.length = ps.length := r.length.symm.trans (F.len _ _ _ _ q)
  have hbt := hb s1 us I1.kIn (by rw [List.append_nil]; exact hl)
  rw [List.append_nil] at hbt
  refine wpAny_call (codeAny_mono (F.run X.A X.stack s1 H1 ⟨us, []⟩ us vs Q E hr hgd I1.env0 hbt r q) fun r s' hq => ?_)
  cases r with
  | error er => exact hx pins σ H1 s1 er s' I1 hq
  | ok fl =>
    cases fl with
    | ret u => exact I1.after hq
    | _ => exact hq.elim
/-- f(a=..., b=...): all by names -/
theorem pe_callGK {g : List Value → List Value} {gV : List V → List V} (F : FnG X.prog X.w X.K X.mg X.base CX k f fd ps sp) (hr : Room k X.A) (hgd : X.A.guards = some []) (hg : Gl X x) (hm : X.mg x = some (.ref f)) (hk : PySem.W.keepIn X.K (.ref f) = true)
    (hb : ∀ (s : Shared) (ws : List Value), X.K.In s.heap → (g ws).length = ps.length → BindsTo s fd ⟨[], ks.zip ws⟩ (ps.zip (g ws))) (hrel : ∀ {zs : List V} {ws : List Value}, Vals zs ws → Vals (gV zs) (g ws)) (hx : Passes CX X E)
    (hkw : PK X kws tk) (hall : (backToKw pos (keywordEach kws X.env)).all (·.1.isSome) = true) (hks : (backToKw pos (keywordEach kws X.env)).filterMap (·.1) = ks) (hdb : (x == ("__debug__" : Str)) = false)
    (hpl : ((backTo pos (starEach [] X.env)).any (·.1) || (backToKw pos (keywordEach kws X.env)).any (·.1.isNone)) = false) (hne : kws ≠ []) :
    PE X (.Call (.Name x p) [] kws pos) (fun σ H Q => tk σ H fun zs H1 => sp (gV zs) H1 Q E) := by
  refine ⟨fun pins s σ H Q I h => wpAny_Call_Name_kw (ld_glob I hg hm (PySem.W.callWith_KW0 (h₀ := X.base) I.ok.mod.kin hk hall (thn (hkw.run pos pins s σ H _ I h) fun ws s1 ⟨zs, H1, I1, r, q⟩ => ⟨I1.kIn, ?_⟩) hpl) hdb)⟩
  rw [hks]
  have r2 := hrel r
  have hl : (g ws).length = ps.length := r2.length.symm.trans (F.len _ _ _ _ q)
  refine wpAny_call (codeAny_mono (F.run X.A X.stack s1 H1 ⟨[], ks.zip ws⟩ (g ws) (gV zs) Q E hr hgd I1.env0 (hb s1 ws I1.kIn hl) r2 q) fun r s' hq => ?_)
  cases r with
  | error er => exact hx pins σ H1 s1 er s' I1 hq
  | ok fl =>
    cases fl with
    | ret u => exact I1.after hq
    | _ => exact hq.elim
end
/-- the law's call, where the script is the one thing that is tracked -/
theorem law_callG {P : Program} {w : World} {K : PySem.W.Frag} {mg mb : Str → Option Value} {k : Nat} {fa a : Addr} {fd : FuncData} {x : Str} {sp : Sp} {s₁ : Shared} {vs : List Value} {ns : List Int}
    (KX : K.In s₁.heap) (hns : s₁.heap.Ns mainGlobals mg) (hb : s₁.heap.Ns builtinsNs mb) (hbb : ∀ x : Str, x ≠ "__name__" → mb x = bootBuiltins x) (hlim : s₁.heap.NoLimit) (hg : s₁.gens = #[])
    (ha : s₁.heap.get? a = some { cls := .type "list", data := .seq vs.toArray }) (hi : IntsAre vs ns) (hl : ns.length ≤ sizeLine) (hr : Room k callerA)
    (F : ∀ base : Heap, K.In base → base.Ns mainGlobals mg → FnG P w K mg base CX0 k fa fd [x] sp) (hbind : ∀ (s : Shared) (u : Value), BindsTo s fd ⟨[u], []⟩ [(x, u)])
    (hsp : ∀ H : Hp, Only H → SqL K H a (ns.map V.int) → sp [.ref a] H (fun v _ => v = .bl true) fun _ _ _ => False) :
    codeAny (model P w) callerA (.call (.ref fa) ⟨[.ref a], []⟩) (fun r s' => r = .ok (.ret (.bool true)) ∧ OldK s₁.heap s'.heap ∧ s'.os = s₁.os ∧ AllBare s'.gens) s₁ := by
  have rv := vals_ints hi
  have core : ∀ H : Hp, Only H → SqL K H a (ns.map V.int) → HOk P w H s₁.heap → (∀ b, H b ≠ none → b = a) → (H a ≠ none → K.lookup a = none) →
      codeAny (model P w) callerA (.call (.ref fa) ⟨[.ref a], []⟩) (fun r s' => r = .ok (.ret (.bool true)) ∧ OldK s₁.heap s'.heap ∧ s'.os = s₁.os ∧ AllBare s'.gens) s₁ := by
    intro H hO hS hok hA hK
    have noA : ∀ {b : Addr} {o : Obj} {es : Array DictEntry} {ep : Nat}, s₁.heap.get? b = some o → o.data = .dict es ep → H b = none := fun {b o es ep} e d => by
      cases q : H b with
      | none => rfl
      | some u =>
        obtain rfl : b = a := hA b (by rw [q]; simp)
        rw [ha] at e; cases e; cases d
    have nsK : ∀ {b : Addr} {m : Str → Option Value}, s₁.heap.Ns b m → (hidT s₁.heap H).Ns b m := fun {b m} ⟨o, es, ep, e, d, r⟩ => ⟨o, es, ep, hidT_get e (noA e d), d, r⟩
    have hKb : K.In (hidT s₁.heap H) := fun b o e => hidT_get (KX b o e) (by
      cases q : H b with
      | none => rfl
      | some u =>
        obtain rfl : b = a := hA b (by rw [q]; simp)
        rw [hK (by rw [q]; simp)] at e; cases e)
    have hM : Mod K mg (hidT s₁.heap H) := ⟨hKb, nsK hns, ⟨mb, nsK hb, hbb⟩, let ⟨mc, h1, h2⟩ := hlim; ⟨mc, nsK h1, h2⟩⟩
    have e0 : Env0 P w K mg (hidT s₁.heap H) callerA [] s₁ H := ⟨rfl, hM, fun b o e => of_hidT e, Nat.le_of_eq (hidT_size _ _), trivial, (fun b hb => by simp [frs] at hb), hok, .of_eq hg⟩
    refine codeAny_mono ((F _ hKb (nsK hns)).run callerA [] s₁ H ⟨[.ref a], []⟩ [.ref a] [.ref a] _ _ hr rfl e0 (hbind s₁ (.ref a)) (.cons rfl .nil) (hsp H hO hS)) fun r s' h => ?_
    cases r with
    | error e => exact h.elim
    | ok fl =>
      cases fl with
      | ret u =>
        obtain ⟨v, H', os, bare, un, hok', r', q⟩ := h
        obtain rfl : v = .bl true := q
        obtain rfl : u = Value.bool true := r'
        refine ⟨rfl, OldK.of_keep fun b o e => ?_, os, bare⟩
        rcases hO b with z | ⟨ob, xs, z⟩
        · exact un.keep b o e z (by simp [frs]) (by simp)
        · obtain ⟨e1, _⟩ := hok b _ z
          rw [e] at e1; cases e1
          exact (hok' b _ (un.frzs b _ _ z)).1
      | _ => exact h.elim
  cases hk : K.lookup a with
  | some o =>
    have e := KX a o hk
    rw [ha] at e
    cases e
    exact core (fun _ => none) (fun _ => .inl rfl) (.inr ⟨_, vs.toArray, _, hk, rfl, rfl, rfl, by rw [List.size_toArray, hi.length]; exact hl, by simpa using rv⟩) (fun b u z => by cases z) (fun b z => absurd rfl z) fun z => absurd rfl z
  | none =>
    refine core (fun b => if b = a then some (.frz { cls := .type "list", data := .seq vs.toArray } (.lst (ns.map V.int))) else none) (fun b => ?_) (.inl (.inr ⟨{ cls := .type "list", data := .seq vs.toArray }, if_pos rfl⟩)) (fun b u z => ?_) (fun b z => ?_) fun _ => hk
    · by_cases h : b = a
      · right; exact ⟨_, _, if_pos h⟩
      · left; exact if_neg h
    · by_cases h : b = a
      · cases (if_pos h).symm.trans z
        subst h
        exact ⟨ha, by rw [List.length_map]; exact hl, vs, _, rv, ha⟩
      · cases (if_neg h).symm.trans z
    · exact Classical.byContradiction fun h => z (if_neg h)
end DZ
/-! DL: data as trees over the hand layer. -/
namespace DL
open PySem PySem.Spec L2
/-- a datum -/
inductive D where
  | non | bl (b : Bool) | int (i : Int) | str (x : Str)
  | tup (xs : List D) | lst (xs : List D) | dct (kvs : List (D × D)) | dcn (kvs : List (D × D)) | obj (n : Nat)
/-- a lambda's code object -/
def Cod (o : HO) : Prop := ∃ c q, o = LamX.CodeO c q
/-- the world of mutable things that several defs share -/
structure Wd (G : Type) where
  fp : Addr → Prop
  holds : G → Hp → Prop
  ref : Nat → V
  pw : World
  loc : ∀ (g : G) (H H' : Hp), holds g H → (∀ a, fp a → H' a = H a) → (∀ a o, H a = some o → Cod o → H' a = some o) → holds g H'
  there : ∀ (g : G) (H : Hp) (a : Addr), holds g H → fp a → H a ≠ none
def kD : Key → D
  | .inl i => .int i
  | .inr x => .str x
variable {G : Type}
/-- a dict's object -/
def IsDK (o : HO) (kvs : List (Key × V)) : Prop := o = .dK kvs ∨ ∃ ob, o = .frz ob (.dK kvs)
theorem IsDK.rd {o : HO} {kvs : List (Key × V)} {H : Hp} {a : Addr} (h : IsDK o kvs) (e : H a = some o) : Rd H a (.dK kvs) := by
  rcases h with rfl | ⟨ob, rfl⟩
  · exact .inl e
  · exact .inr ⟨ob, e⟩
/-- a dict, locked or not -/
def DObj (o : HO) (ks : List (D × V)) : Prop := ∃ kvs : List (Key × V), IsDK o kvs ∧ ks = kvs.map fun p => (kD p.1, p.2)
/-- a dict that is not locked -/
def DObjK (o : HO) (ks : List (D × V)) : Prop := ∃ kvs : List (Key × V), o = .dK kvs ∧ ks = kvs.map fun p => (kD p.1, p.2)
theorem DObjK.any {o : HO} {ks : List (D × V)} (h : DObjK o ks) : DObj o ks := let ⟨kvs, e, z⟩ := h; ⟨kvs, .inl e, z⟩
mutual
/-- a key of any depth -/
def nkD : D → Option NestedKey
  | .int i => some (.num i)
  | .str x => some (.text x)
  | .tup ds => (nksD ds).map NestedKey.tup
  | _ => none
def nksD : List D → Option (List NestedKey)
  | [] => some []
  | d :: ds => match nkD d, nksD ds with
    | some k, some ks => some (k :: ks)
    | _, _ => none
end
/-- a dict at a whose keys are tuples: its entries -/
def nDictO (w : World) (a : Addr) (xs : List (NestedKey × Addr × Value)) : HO := .ext fun h => (a == sysModules) = false ∧ xs.length ≤ sizeLine ∧ (xs.map (·.1)).Nodup ∧ ∃ o es ep, h.get? a = some o ∧ o.ExactDict ∧ o.data = .dict es ep ∧ es.toList = xs.map fun x => (⟨x.1.hash w, .ref x.2.1, x.2.2⟩ : DictEntry)
def IsDN (w : World) (a : Addr) (o : HO) (xs : List (NestedKey × Addr × Value)) : Prop := o = nDictO w a xs ∨ ∃ ob, o = .frz ob (nDictO w a xs)
mutual
/-- v stands for d, by things of P -/
def Rep (K : PySem.W.Frag) (W : Wd G) (P : Hp) : D → V → Prop
  | .non, v => v = .non
  | .bl b, v => v = .bl b
  | .int i, v => v = .int i
  | .str x, v => v = .str x
  | .tup ds, v => ∃ a xs, v = .ref a ∧ DY.TupP K P a xs ∧ ds.length ≤ sizeLine ∧ Reps K W P ds xs
  | .lst ds, v => ∃ a xs, v = .ref a ∧ P a = some (.lst xs) ∧ ds.length ≤ sizeLine ∧ Reps K W P ds xs
  | .dct kvs, v => ∃ a o ks, v = .ref a ∧ P a = some o ∧ DObj o ks ∧ Repk K W P kvs ks
  | .dcn kvs, v => ∃ a o xs, v = .ref a ∧ P a = some o ∧ IsDN W.pw a o xs ∧ Repn K W P kvs xs
  | .obj n, v => v = W.ref n
def Reps (K : PySem.W.Frag) (W : Wd G) (P : Hp) : List D → List V → Prop
  | [], vs => vs = []
  | d :: ds, vs => ∃ v r, vs = v :: r ∧ Rep K W P d v ∧ Reps K W P ds r
def Repk (K : PySem.W.Frag) (W : Wd G) (P : Hp) : List (D × D) → List (D × V) → Prop
  | [], vs => vs = []
  | (k, d) :: ds, vs => ∃ v r, vs = (k, v) :: r ∧ Rep K W P d v ∧ Repk K W P ds r
def Repn (K : PySem.W.Frag) (W : Wd G) (P : Hp) : List (D × D) → List (NestedKey × Addr × Value) → Prop
  | [], xs => xs = []
  | (k, d) :: ds, xs => ∃ nk b u v r, xs = (nk, b, u) :: r ∧ nkD k = some nk ∧ nk.depth ≤ 8 ∧ Rep K W P k (.ref b) ∧ RelV v u ∧ Rep K W P d v ∧ Repn K W P ds r
end
/-- a tuple that is only taken apart; else as Rep -/
def RepA (K : PySem.W.Frag) (W : Wd G) (P : Hp) : D → V → Prop
  | .tup ds, v => ∃ a xs, v = .ref a ∧ SqT K P a xs ∧ Reps K W P ds xs
  | _, _ => False
def RepF (K : PySem.W.Frag) (W : Wd G) (P : Hp) (A : Bool) (d : D) (v : V) : Prop := if A = true then RepA K W P d v else Rep K W P d v
def Sub (P H : Hp) : Prop := ∀ a o, P a = some o → H a = some o
theorem Sub.refl (P : Hp) : Sub P P := fun _ _ h => h
theorem Sub.trans {P Q R : Hp} (a : Sub P Q) (b : Sub Q R) : Sub P R := fun x o h => b x o (a x o h)
theorem Sub.rd {P H : Hp} (s : Sub P H) {a : Addr} {o : HO} (r : Rd P a o) : Rd H a o := by
  rcases r with r | ⟨u, r⟩
  · exact .inl (s _ _ r)
  · exact .inr ⟨u, s _ _ r⟩
theorem Sub.sqT {P H : Hp} (s : Sub P H) {K : PySem.W.Frag} {a : Addr} {xs : List V} (r : SqT K P a xs) : SqT K H a xs := r.imp s.rd id
mutual
theorem Rep.mono {K : PySem.W.Frag} {W : Wd G} {P P' : Hp} (s : Sub P P') : ∀ (d : D) (v : V), Rep K W P d v → Rep K W P' d v
  | .non, _, h => by simpa only [Rep] using h
  | .bl _, _, h => by simpa only [Rep] using h
  | .int _, _, h => by simpa only [Rep] using h
  | .str _, _, h => by simpa only [Rep] using h
  | .obj _, _, h => by simpa only [Rep] using h
  | .tup ds, v, h => by
    simp only [Rep] at h ⊢
    obtain ⟨a, xs, e, q, z, r⟩ := h
    exact ⟨a, xs, e, q.mono s, z, Reps.mono s ds xs r⟩
  | .lst ds, v, h => by
    simp only [Rep] at h ⊢
    obtain ⟨a, xs, e, q, z, r⟩ := h
    exact ⟨a, xs, e, s _ _ q, z, Reps.mono s ds xs r⟩
  | .dct kvs, v, h => by
    simp only [Rep] at h ⊢
    obtain ⟨a, o, ks, e, q, z, r⟩ := h
    exact ⟨a, o, ks, e, s _ _ q, z, Repk.mono s kvs ks r⟩
  | .dcn kvs, v, h => by
    simp only [Rep] at h ⊢
    obtain ⟨a, o, xs, e, q, z, r⟩ := h
    exact ⟨a, o, xs, e, s _ _ q, z, Repn.mono s kvs xs r⟩
theorem Reps.mono {K : PySem.W.Frag} {W : Wd G} {P P' : Hp} (s : Sub P P') : ∀ (ds : List D) (vs : List V), Reps K W P ds vs → Reps K W P' ds vs
  | [], _, h => by simpa only [Reps] using h
  | d :: ds, vs, h => by
    simp only [Reps] at h ⊢
    obtain ⟨v, r, e, h1, h2⟩ := h
    exact ⟨v, r, e, Rep.mono s d v h1, Reps.mono s ds r h2⟩
theorem Repk.mono {K : PySem.W.Frag} {W : Wd G} {P P' : Hp} (s : Sub P P') : ∀ (ds : List (D × D)) (vs : List (D × V)), Repk K W P ds vs → Repk K W P' ds vs
  | [], _, h => by simpa only [Repk] using h
  | (k, d) :: ds, vs, h => by
    simp only [Repk] at h ⊢
    obtain ⟨v, r, e, h1, h2⟩ := h
    exact ⟨v, r, e, Rep.mono s d v h1, Repk.mono s ds r h2⟩
theorem Repn.mono {K : PySem.W.Frag} {W : Wd G} {P P' : Hp} (s : Sub P P') : ∀ (ds : List (D × D)) (xs : List (NestedKey × Addr × Value)), Repn K W P ds xs → Repn K W P' ds xs
  | [], _, h => by simpa only [Repn] using h
  | (k, d) :: ds, xs, h => by
    simp only [Repn] at h ⊢
    obtain ⟨nk, b, u, v, r, e, h1, h2, h3, h4, h5, h6⟩ := h
    exact ⟨nk, b, u, v, r, e, h1, h2, Rep.mono s k _ h3, h4, Rep.mono s d v h5, Repn.mono s ds r h6⟩
end
/-- what a slot or a value in hand is: a shared datum, an own new thing, the thing of slot i -/
inductive S where
  | sh (d : D) | ow (d : D) | at (i : Nat) | any
abbrev Sl := List (Option S)
inductive Tag where
  | slot (i : Nat) | tmp (i : Nat)
/-- v reads as d in H, its parts by P -/
def Rd1 (K : PySem.W.Frag) (W : Wd G) (P H : Hp) : D → V → Prop
  | .lst ds, v => ∃ a xs, v = .ref a ∧ H a = some (.lst xs) ∧ ds.length ≤ sizeLine ∧ Reps K W P ds xs
  | .dct kvs, v => ∃ a o ks, v = .ref a ∧ H a = some o ∧ DObj o ks ∧ Repk K W P kvs ks
  | .dcn kvs, v => ∃ a o xs, v = .ref a ∧ H a = some o ∧ IsDN W.pw a o xs ∧ Repn K W P kvs xs
  | d, v => Rep K W P d v
/-- an own thing's object -/
def Own (K : PySem.W.Frag) (W : Wd G) (P : Hp) (a : Addr) (o : HO) : D → Prop
  | .lst ds => ∃ xs, o = .lst xs ∧ ds.length ≤ sizeLine ∧ Reps K W P ds xs
  | .dct kvs => ∃ ks, DObjK o ks ∧ Repk K W P kvs ks
  | .dcn kvs => ∃ xs, o = nDictO W.pw a xs ∧ Repn K W P kvs xs
  | _ => False
def SOk (K : PySem.W.Frag) (W : Wd G) (P : Hp) (O : Addr → Option Tag) (H : Hp) (σ : St) (t : Tag) (v : V) : S → Prop
  | .sh d => Rep K W P d v
  | .ow d => ∃ a o, v = .ref a ∧ O a = some t ∧ H a = some o ∧ Own K W P a o d
  | .at i => σ[i]? = some (some v)
  | .any => True
def TOk (K : PySem.W.Frag) (W : Wd G) (P : Hp) (O : Addr → Option Tag) (H : Hp) (σ : St) : List V → List S → Prop
  | [], [] => True
  | v :: τ, s :: ts => SOk K W P O H σ (.tmp τ.length) v s ∧ TOk K W P O H σ τ ts
  | _, _ => False
structure RelB (K : PySem.W.Frag) (W : Wd G) (P₀ H₀ P : Hp) (O : Addr → Option Tag) (σ : St) (st : Sl) (τ : List V) (ts : List S) (H : Hp) (g : G) : Prop where
  sub : Sub P H
  base : ∀ a o, H₀ a = some o → ¬ W.fp a → H a = some o
  p0 : Sub P₀ P
  new : ∀ a, P a ≠ none → P₀ a ≠ none ∨ H₀ a = none
  nfp : ∀ a, P a ≠ none → ¬ W.fp a
  own : ∀ a t, O a = some t → P a = none ∧ H₀ a = none ∧ ¬ W.fp a ∧ H a ≠ none
  wld : W.holds g H
  len : st.length = σ.length
  slots : ∀ (i : Nat) s, st[i]? = some (some s) → ∃ v, σ[i]? = some (some v) ∧ (∀ j, s ≠ .at j) ∧ SOk K W P O H σ (.slot i) v s
  temps : TOk K W P O H σ τ ts
def Rel (K : PySem.W.Frag) (W : Wd G) (P₀ H₀ : Hp) (σ : St) (st : Sl) (τ : List V) (ts : List S) (H : Hp) (g : G) : Prop :=
  ∃ P O, RelB K W P₀ H₀ P O σ st τ ts H g
abbrev M (G α : Type) := Sl → G → Option (α × Sl × G)
def bnd {α β : Type} (x : Option (α × Sl × G)) (k : α → Sl → G → Option β) : Option β :=
  match x with
  | none => none
  | some (a, st, g) => k a st g
@[simp] theorem bnd_some {α β : Type} (a : α) (st : Sl) (g : G) (k : α → Sl → G → Option β) : bnd (some (a, st, g)) k = k a st g := rfl
@[simp] theorem bnd_none {α β : Type} (k : α → Sl → G → Option β) : bnd (none : Option (α × Sl × G)) k = none := rfl
theorem bnd_eq {α β : Type} {x : Option (α × Sl × G)} {k : α → Sl → G → Option β} {b : β} (h : bnd x k = some b) : ∃ a st g, x = some (a, st, g) ∧ k a st g = some b := by
  cases x with
  | none => cases h
  | some y => exact ⟨y.1, y.2.1, y.2.2, rfl, h⟩
def peek (s : S) (st : Sl) : Option D :=
  match s with
  | .sh d => some d
  | .ow d => some d
  | .at i => match st[i]? with
    | some (some (.sh d)) => some d
    | some (some (.ow d)) => some d
    | _ => none
  | .any => none
/-- the value is kept elsewhere: it is shared from now on -/
def take (s : S) (st : Sl) : Option (D × Sl) :=
  match s with
  | .sh d => some (d, st)
  | .ow d => some (d, st)
  | .at i => match st[i]? with
    | some (some (.sh d)) => some (d, st)
    | some (some (.ow d)) => some (d, st.set i (some (.sh d)))
    | _ => none
  | .any => none
section
variable {K : PySem.W.Frag} {W : Wd G} {P₀ H₀ P H : Hp} {O : Addr → Option Tag} {σ : St} {st : Sl} {τ : List V} {ts : List S} {g : G} {v : V} {s : S} {d : D}
theorem Rep.rd1 (h : Sub P H) : ∀ {d : D} {v : V}, Rep K W P d v → Rd1 K W P H d v
  | .non, _, r => r
  | .bl _, _, r => r
  | .int _, _, r => r
  | .str _, _, r => r
  | .obj _, _, r => r
  | .tup _, _, r => r
  | .lst ds, v, r => by
    simp only [Rep] at r
    obtain ⟨a, xs, e, q, z, r⟩ := r
    exact ⟨a, xs, e, h _ _ q, z, r⟩
  | .dct kvs, v, r => by
    simp only [Rep] at r
    obtain ⟨a, o, ks, e, q, z, r⟩ := r
    exact ⟨a, o, ks, e, h _ _ q, z, r⟩
  | .dcn kvs, v, r => by
    simp only [Rep] at r
    obtain ⟨a, o, xs, e, q, z, r⟩ := r
    exact ⟨a, o, xs, e, h _ _ q, z, r⟩
theorem Own.rd1 {a : Addr} {o : HO} (h : H a = some o) : ∀ {d : D}, Own K W P a o d → Rd1 K W P H d (.ref a)
  | .lst ds, r => by
    obtain ⟨xs, rfl, z, r⟩ := r
    exact ⟨a, xs, rfl, h, z, r⟩
  | .dct kvs, r => by
    obtain ⟨ks, z, r⟩ := r
    exact ⟨a, o, ks, rfl, h, z.any, r⟩
  | .dcn kvs, r => by
    obtain ⟨xs, z, r⟩ := r
    exact ⟨a, o, xs, rfl, h, .inl z, r⟩
theorem SOk.rd1 {t : Tag} (hs : Sub P H) (h : SOk K W P O H σ t v s) (hn : ∀ i, s ≠ .at i) (hd : peek s st = some d) : Rd1 K W P H d v := by
  cases s with
  | sh e => cases hd; exact Rep.rd1 hs h
  | ow e =>
    cases hd
    obtain ⟨a, o, rfl, _, e2, r⟩ := h
    exact Own.rd1 e2 r
  | «at» i => exact absurd rfl (hn i)
  | any => cases hd
theorem RelB.slot (R : RelB K W P₀ H₀ P O σ st τ ts H g) {i : Nat} {s : S} (h : st[i]? = some (some s)) : ∃ v, σ[i]? = some (some v) ∧ (∀ j, s ≠ .at j) ∧ SOk K W P O H σ (.slot i) v s := R.slots i s h
/-- the value on top reads as what peek tells -/
theorem RelB.peekV (R : RelB K W P₀ H₀ P O σ st (v :: τ) (s :: ts) H g) (hd : peek s st = some d) : Rd1 K W P H d v := by
  have h : SOk K W P O H σ (.tmp τ.length) v s := R.temps.1
  cases s with
  | sh e => exact h.rd1 R.sub (fun _ q => nomatch q) hd
  | ow e => exact h.rd1 (st := st) R.sub (fun _ q => nomatch q) hd
  | any => cases hd
  | «at» i =>
    unfold peek at hd
    have hv : σ[i]? = some (some v) := h
    cases e : st[i]? with
    | none => simp [e] at hd
    | some x =>
      cases x with
      | none => simp [e] at hd
      | some y =>
        obtain ⟨v', e2, e3, q⟩ := R.slot e
        rw [hv] at e2; cases e2
        refine q.rd1 (st := st) R.sub e3 ?_
        cases y with
        | sh d' => simpa [e, peek] using hd
        | ow d' => simpa [e, peek] using hd
        | «at» j => exact absurd rfl (e3 j)
        | any => simp [e] at hd
theorem RelB.pop (R : RelB K W P₀ H₀ P O σ st (v :: τ) (s :: ts) H g) : RelB K W P₀ H₀ P O σ st τ ts H g :=
  { R with temps := R.temps.2 }
theorem RelB.pushS (R : RelB K W P₀ H₀ P O σ st τ ts H g) (h : SOk K W P O H σ (.tmp τ.length) v s) : RelB K W P₀ H₀ P O σ st (v :: τ) (s :: ts) H g :=
  { R with temps := ⟨h, R.temps⟩ }
theorem RelB.push (R : RelB K W P₀ H₀ P O σ st τ ts H g) (h : Rep K W P d v) : RelB K W P₀ H₀ P O σ st (v :: τ) (.sh d :: ts) H g := R.pushS h
theorem SOk.mono {P' H' : Hp} {O' : Addr → Option Tag} {t : Tag} (hp : Sub P P') (hO : ∀ a, O a = some t → O' a = some t) (hH : ∀ a o, O a = some t → H a = some o → H' a = some o) : SOk K W P O H σ t v s → SOk K W P' O' H' σ t v s := by
  intro h
  cases s with
  | sh e => exact Rep.mono hp _ _ h
  | ow e =>
    obtain ⟨a, o, rfl, e1, e2, r⟩ := h
    refine ⟨a, o, rfl, hO a e1, hH a o e1 e2, ?_⟩
    cases e with
    | lst ds => obtain ⟨xs, e3, z, r⟩ := r; exact ⟨xs, e3, z, Reps.mono hp _ _ r⟩
    | dct kvs => obtain ⟨ks, z, r⟩ := r; exact ⟨ks, z, Repk.mono hp _ _ r⟩
    | dcn kvs => obtain ⟨xs, z, r⟩ := r; exact ⟨xs, z, Repn.mono hp _ _ r⟩
    | _ => exact r
  | «at» i => exact h
  | any => exact h
theorem TOk.mono {P' H' : Hp} {O' : Addr → Option Tag} (hp : Sub P P') : ∀ {τ : List V} {ts : List S}, (∀ a i, i < τ.length → O a = some (.tmp i) → O' a = some (.tmp i)) → (∀ a o i, i < τ.length → O a = some (.tmp i) → H a = some o → H' a = some o) → TOk K W P O H σ τ ts → TOk K W P' O' H' σ τ ts
  | [], [], _, _, _ => trivial
  | v :: τ, s :: ts, hO, hH, h => ⟨SOk.mono hp (fun a q => hO a _ (Nat.lt_succ_self _) q) (fun a o q => hH a o _ (Nat.lt_succ_self _) q) h.1, TOk.mono hp (fun a i hi q => hO a i (Nat.lt_succ_of_lt hi) q) (fun a o i hi q => hH a o i (Nat.lt_succ_of_lt hi) q) h.2⟩
  | [], _ :: _, _, _, h => h.elim
  | _ :: _, [], _, _, h => h.elim
/-! ### code objects stay -/
theorem keep_new {H : Hp} {p : Addr} {x : HO} (hp : H p = none) : ∀ a o, H a = some o → Cod o → upd H p x a = some o := fun a o e _ => by rw [upd_ne (ne_of_none e hp)]; exact e
theorem keep_ne {H : Hp} {p : Addr} {x u : HO} (hp : H p = some u) (hu : ¬ Cod u) : ∀ a o, H a = some o → Cod o → upd H p x a = some o := fun a o e c => by
  by_cases h : a = p
  · subst h; rw [hp] at e; cases e; exact absurd c hu
  · rw [upd_ne h]; exact e
theorem cod_lst {xs : List V} : ¬ Cod (.lst xs) := fun ⟨c, q, e⟩ => by unfold LamX.CodeO at e; cases e
theorem cod_dK {kvs : List (Key × V)} : ¬ Cod (.dK kvs) := fun ⟨c, q, e⟩ => by unfold LamX.CodeO at e; cases e
theorem cod_nDict {w : World} {a : Addr} {xs : List (NestedKey × Addr × Value)} : ¬ Cod (nDictO w a xs) := fun ⟨c, q, e⟩ => by
  unfold LamX.CodeO nDictO at e
  injection e with e
  have key : ∀ b, b < max a c + 1 → ({ objs := Array.replicate (max a c + 1) { cls := .none, data := .fields #[.none, .str q 0] } } : Heap).get? b = some { cls := .none, data := .fields #[.none, .str q 0] } := fun b hb => by
    unfold Heap.get?
    simp [Array.getElem?_replicate, hb]
  have e2 := congrFun e ({ objs := Array.replicate (max a c + 1) { cls := .none, data := .fields #[.none, .str q 0] } } : Heap)
  obtain ⟨_, _, _, o, es, ep, h1, _, h2, _⟩ := e2.mpr ⟨_, #[.none, .str q 0], 0, key c (Nat.lt_succ_of_le (Nat.le_max_right a c)), rfl, rfl⟩
  rw [key a (Nat.lt_succ_of_le (Nat.le_max_left a c))] at h1
  cases h1
  cases h2
theorem Own.cod {K : PySem.W.Frag} {W : Wd G} {P : Hp} {a : Addr} {o : HO} : ∀ {d : D}, Own K W P a o d → ¬ Cod o
  | .lst _, ⟨_, e, _⟩ => e ▸ cod_lst
  | .dct _, ⟨_, ⟨_, e, _⟩, _⟩ => e ▸ cod_dK
  | .dcn _, ⟨_, e, _⟩ => e ▸ cod_nDict
  | .bl _, h => h.elim
  | .int _, h => h.elim
  | .str _, h => h.elim
  | .non, h => h.elim
  | .tup _, h => h.elim
  | .obj _, h => h.elim
/-- a shared new thing is laid -/
theorem RelB.laid {p : Addr} {o : HO} (R : RelB K W P₀ H₀ P O σ st τ ts H g) (hp : H p = none) : RelB K W P₀ H₀ (upd P p o) O σ st τ ts (upd H p o) g := by
  have pn : P p = none := by
    cases e : P p with
    | none => rfl
    | some u => have := R.sub _ _ e; rw [hp] at this; cases this
  have nf : ¬ W.fp p := fun h => W.there g H p R.wld h hp
  have sP : Sub P (upd P p o) := fun a u e => by rw [upd_ne (ne_of_none e pn)]; exact e
  have sH : Sub H (upd H p o) := fun a u e => by rw [upd_ne (ne_of_none e hp)]; exact e
  refine ⟨fun a u e => ?_, fun a u e n => sH _ _ (R.base a u e n), R.p0.trans sP, fun a e => ?_, fun a e => ?_, fun a t e => ?_, ?_, R.len, fun i s e => ?_, ?_⟩
  · by_cases h : a = p
    · subst h; rw [upd_same] at e ⊢; exact e
    · rw [upd_ne h] at e ⊢; exact R.sub a u e
  · by_cases h : a = p
    · subst h
      right
      cases q : H₀ a with
      | none => rfl
      | some u => have := R.base a u q nf; rw [hp] at this; cases this
    · rw [upd_ne h] at e; exact R.new a e
  · by_cases h : a = p
    · subst h; exact nf
    · rw [upd_ne h] at e; exact R.nfp a e
  · obtain ⟨h1, h2, h3, h4⟩ := R.own a t e
    have ne : a ≠ p := fun q => h4 (q ▸ hp)
    exact ⟨by rw [upd_ne ne]; exact h1, h2, h3, by rw [upd_ne ne]; exact h4⟩
  · exact W.loc g H _ R.wld (fun a h => upd_ne fun q => nf (q ▸ h)) (keep_new hp)
  · obtain ⟨v, e1, e2, q⟩ := R.slots i s e
    exact ⟨v, e1, e2, q.mono sP (fun _ q => q) (fun a o _ q => sH _ _ q)⟩
  · exact R.temps.mono sP (fun _ _ _ q => q) (fun a o _ _ _ q => sH _ _ q)
/-- an own new thing is laid -/
theorem RelB.laidOwn {p : Addr} {o : HO} (R : RelB K W P₀ H₀ P O σ st τ ts H g) (hp : H p = none) (hd : Own K W P p o d) : ∃ O', RelB K W P₀ H₀ P O' σ st (.ref p :: τ) (.ow d :: ts) (upd H p o) g := by
  have pn : P p = none := by
    cases e : P p with
    | none => rfl
    | some u => have := R.sub _ _ e; rw [hp] at this; cases this
  have nf : ¬ W.fp p := fun h => W.there g H p R.wld h hp
  have sH : Sub H (upd H p o) := fun a u e => by rw [upd_ne (ne_of_none e hp)]; exact e
  have On : O p = none := by
    cases e : O p with
    | none => rfl
    | some t => exact absurd hp (R.own p t e).2.2.2
  have h0 : H₀ p = none := by
    cases q : H₀ p with
    | none => rfl
    | some u => have := R.base p u q nf; rw [hp] at this; cases this
  have sO : ∀ a t, O a = some t → (if a = p then some (Tag.tmp τ.length) else O a) = some t := fun a t e => by
    rw [if_neg (fun q => by rw [q, On] at e; cases e)]; exact e
  refine ⟨fun a => if a = p then some (.tmp τ.length) else O a, ⟨fun a u e => sH _ _ (R.sub a u e), fun a u e n => sH _ _ (R.base a u e n), R.p0, R.new, R.nfp, fun a t e => ?_, ?_, R.len, fun i s e => ?_, ⟨?_, ?_⟩⟩⟩
  · by_cases h : a = p
    · subst h; exact ⟨pn, h0, nf, by rw [upd_same]; simp⟩
    · rw [if_neg h] at e
      obtain ⟨h1, h2, h3, h4⟩ := R.own a t e
      exact ⟨h1, h2, h3, by rw [upd_ne h]; exact h4⟩
  · exact W.loc g H _ R.wld (fun a h => upd_ne fun q => nf (q ▸ h)) (keep_new hp)
  · obtain ⟨v, e1, e2, q⟩ := R.slots i s e
    exact ⟨v, e1, e2, q.mono (Sub.refl P) (fun a q => sO a _ q) (fun a o _ q => sH _ _ q)⟩
  · exact ⟨p, o, rfl, if_pos rfl, upd_same, hd⟩
  · exact R.temps.mono (Sub.refl P) (fun a i _ q => sO a _ q) (fun a o _ _ _ q => sH _ _ q)
/-- an own thing becomes shared -/
theorem RelB.freeze {a : Addr} {o : HO} {t : Tag} (R : RelB K W P₀ H₀ P O σ st τ ts H g) (hO : O a = some t) (hH : H a = some o) (hs : ∀ i s, t = .slot i → st[i]? = some (some s) → ∀ d, s ≠ .ow d) (ht : ∀ i, t = .tmp i → τ.length ≤ i) :
    RelB K W P₀ H₀ (upd P a o) (fun b => if b = a then none else O b) σ st τ ts H g := by
  obtain ⟨pn, h0, nf, _⟩ := R.own a t hO
  have sP : Sub P (upd P a o) := fun b u e => by rw [upd_ne (ne_of_none e pn)]; exact e
  refine ⟨fun b u e => ?_, R.base, R.p0.trans sP, fun b e => ?_, fun b e => ?_, fun b t' e => ?_, R.wld, R.len, fun i s e => ?_, ?_⟩
  · by_cases h : b = a
    · subst h; rw [upd_same] at e; rw [hH]; exact e
    · rw [upd_ne h] at e; exact R.sub b u e
  · by_cases h : b = a
    · subst h; exact .inr h0
    · rw [upd_ne h] at e; exact R.new b e
  · by_cases h : b = a
    · subst h; exact nf
    · rw [upd_ne h] at e; exact R.nfp b e
  · by_cases h : b = a
    · subst h; rw [if_pos rfl] at e; cases e
    · rw [if_neg h] at e
      obtain ⟨h1, h2⟩ := R.own b t' e
      exact ⟨by rw [upd_ne h]; exact h1, h2⟩
  · obtain ⟨v, e1, e2, q⟩ := R.slots i s e
    refine ⟨v, e1, e2, ?_⟩
    cases s with
    | sh d => exact Rep.mono sP _ _ q
    | «at» j => exact q
    | any => exact q
    | ow d =>
      refine SOk.mono sP (fun b z => ?_) (fun _ _ _ z => z) q
      rw [if_neg fun y => ?_]
      · exact z
      · subst y; rw [hO] at z; exact hs i _ (Option.some.inj z) e d rfl
  · refine TOk.mono sP (fun b i hi z => ?_) (fun _ _ _ _ _ z => z) R.temps
    rw [if_neg fun y => ?_]
    · exact z
    · subst y; rw [hO] at z; exact absurd (ht i (Option.some.inj z)) (Nat.not_le_of_lt hi)
end
end DL
namespace DL
open PySem PySem.Spec L2
variable {G : Type}
section
variable {K : PySem.W.Frag} {W : Wd G} {P₀ H₀ P H : Hp} {O : Addr → Option Tag} {σ : L2.St} {st st' : Sl} {τ : List V} {ts : List S} {g : G} {v : V} {s : S} {d : D}
/-- a value in hand becomes shared -/
theorem RelB.takeV (R : RelB K W P₀ H₀ P O σ st (v :: τ) (s :: ts) H g) (hd : take s st = some (d, st')) : ∃ P' O', RelB K W P₀ H₀ P' O' σ st' (v :: τ) (.sh d :: ts) H g := by
  have h : SOk K W P O H σ (.tmp τ.length) v s := R.temps.1
  have up : ∀ {a : Addr} {o : HO} {e : D}, v = .ref a → H a = some o → Own K W P a o e → P a = none → Rep K W (upd P a o) e v := by
    intro a o e ev eH q pn
    have sP : Sub P (upd P a o) := fun b u z => by rw [upd_ne (ne_of_none z pn)]; exact z
    cases e with
    | lst ds =>
      obtain ⟨xs, rfl, zz, r⟩ := q
      simp only [Rep]
      exact ⟨a, xs, ev, upd_same, zz, Reps.mono sP _ _ r⟩
    | dct kvs =>
      obtain ⟨ks, z, r⟩ := q
      simp only [Rep]
      exact ⟨a, o, ks, ev, upd_same, z.any, Repk.mono sP _ _ r⟩
    | dcn kvs =>
      obtain ⟨xs, z, r⟩ := q
      simp only [Rep]
      exact ⟨a, o, xs, ev, upd_same, .inl z, Repn.mono sP _ _ r⟩
    | _ => exact q.elim
  cases s with
  | sh e => simp only [take, Option.some.injEq, Prod.mk.injEq] at hd; obtain ⟨rfl, rfl⟩ := hd; exact ⟨P, O, R⟩
  | ow e =>
    simp only [take, Option.some.injEq, Prod.mk.injEq] at hd; obtain ⟨rfl, rfl⟩ := hd
    obtain ⟨a, o, ev, eO, eH, q⟩ := h
    have pn := (R.own a _ eO).1
    have R' := R.pop.freeze eO eH (fun i s e => nomatch e) (fun i e => by cases e; exact Nat.le_refl _)
    exact ⟨_, _, R'.push (up ev eH q pn)⟩
  | any => cases hd
  | «at» i =>
    have hv : σ[i]? = some (some v) := h
    unfold take at hd
    cases e : st[i]? with
    | none => simp [e] at hd
    | some x =>
      cases x with
      | none => simp [e] at hd
      | some y =>
        obtain ⟨v', e2, e3, q⟩ := R.slot e
        rw [hv] at e2; cases e2
        cases y with
        | sh d' =>
          simp only [e, Option.some.injEq, Prod.mk.injEq] at hd; obtain ⟨rfl, rfl⟩ := hd
          exact ⟨P, O, R.pop.push q⟩
        | «at» j => exact absurd rfl (e3 j)
        | any => simp [e] at hd
        | ow d' =>
          simp only [e, Option.some.injEq, Prod.mk.injEq] at hd; obtain ⟨rfl, rfl⟩ := hd
          obtain ⟨a, o, ev, eO, eH, q⟩ := q
          have pn := (R.own a _ eO).1
          -- first forget that the slot owns it
          have hlt : i < st.length := by
            have := List.getElem?_eq_some_iff.mp e; exact this.1
          have R1 : RelB K W P₀ H₀ P O σ (st.set i none) (v :: τ) (.at i :: ts) H g := by
            refine { R with len := by rw [List.length_set]; exact R.len, slots := fun j s z => ?_ }
            by_cases hj : j = i
            · subst hj; rw [List.getElem?_set_self hlt] at z; cases z
            · rw [List.getElem?_set_ne (Ne.symm hj)] at z; exact R.slots j s z
          have R2 := R1.freeze eO eH (fun j s z y => by
            cases z; rw [List.getElem?_set_self hlt] at y; cases y) (fun j z => nomatch z)
          have rp := up ev eH q pn
          refine ⟨_, _, { R2 with len := by rw [List.length_set]; exact R.len, slots := fun j s z => ?_, temps := ⟨rp, R2.temps.2⟩ }⟩
          by_cases hj : j = i
          · subst hj
            rw [List.getElem?_set_self hlt] at z; cases z
            exact ⟨v, hv, (fun _ q => nomatch q), rp⟩
          · rw [List.getElem?_set_ne (Ne.symm hj)] at z
            exact R2.slots j s (by rw [List.getElem?_set_ne (Ne.symm hj)]; exact z)
def NoAt (ts : List S) : Prop := ∀ i, S.at i ∉ ts
theorem TOk.noAt {σ' : L2.St} : ∀ {τ : List V} {ts : List S}, NoAt ts → TOk K W P O H σ τ ts → TOk K W P O H σ' τ ts
  | [], [], _, h => h
  | v :: τ, s :: ts, n, h => by
    refine ⟨?_, TOk.noAt (fun i q => n i (List.mem_cons_of_mem _ q)) h.2⟩
    have h1 := h.1
    cases s with
    | sh e => exact h1
    | ow e => exact h1
    | any => exact h1
    | «at» i => exact absurd List.mem_cons_self (n i)
  | [], _ :: _, _, h => h.elim
  | _ :: _, [], _, h => h.elim
/-- a name is stored -/
theorem RelB.store {i : Nat} (R : RelB K W P₀ H₀ P O σ st (v :: τ) (s :: ts) H g) (hs : ∀ j, s ≠ .at j) (hs2 : s ≠ .any) (hn : NoAt ts) (hi : i < σ.length) : ∃ O', RelB K W P₀ H₀ P O' (σ.set i (some v)) (st.set i (some s)) τ ts H g := by
  have h : SOk K W P O H σ (.tmp τ.length) v s := R.temps.1
  have hl : i < st.length := by rw [R.len]; exact hi
  cases s with
  | «at» j => exact absurd rfl (hs j)
  | any => exact absurd rfl hs2
  | sh e =>
    refine ⟨O, { R with len := by simp [R.len], slots := fun j s z => ?_, temps := R.temps.2.noAt hn }⟩
    by_cases hj : j = i
    · subst hj
      rw [List.getElem?_set_self hl] at z; cases z
      exact ⟨v, List.getElem?_set_self hi, (fun _ q => nomatch q), h⟩
    · rw [List.getElem?_set_ne (Ne.symm hj)] at z
      obtain ⟨v', e1, e2, q⟩ := R.slots j s z
      refine ⟨v', by rw [List.getElem?_set_ne (Ne.symm hj)]; exact e1, e2, ?_⟩
      cases s with
      | sh _ => exact q
      | ow _ => exact q
      | any => exact q
      | «at» k => exact absurd rfl (e2 k)
  | ow e =>
    obtain ⟨a, o, ev, eO, eH, q⟩ := h
    have own := R.own a _ eO
    refine ⟨fun b => if b = a then some (.slot i) else O b, { R with own := fun b t z => ?_, len := by simp [R.len], slots := fun j s z => ?_, temps := ?_ }⟩
    · by_cases hb : b = a
      · subst hb; exact own
      · rw [if_neg hb] at z; exact R.own b t z
    · by_cases hj : j = i
      · subst hj
        rw [List.getElem?_set_self hl] at z; cases z
        exact ⟨v, List.getElem?_set_self hi, (fun _ q => nomatch q), a, o, ev, if_pos rfl, eH, q⟩
      · rw [List.getElem?_set_ne (Ne.symm hj)] at z
        obtain ⟨v', e1, e2, q⟩ := R.slots j s z
        refine ⟨v', by rw [List.getElem?_set_ne (Ne.symm hj)]; exact e1, e2, ?_⟩
        cases s with
        | sh _ => exact q
        | any => exact q
        | «at» k => exact absurd rfl (e2 k)
        | ow e' =>
          obtain ⟨b, o', ev', eO', eH', q'⟩ := q
          refine ⟨b, o', ev', (if_neg fun y => ?_).trans eO', eH', q'⟩
          subst y; rw [eO] at eO'; cases eO'
    · refine TOk.noAt hn (TOk.mono (Sub.refl P) (fun b k hk z => ?_) (fun _ _ _ _ _ z => z) R.temps.2)
      rw [if_neg fun y => ?_]
      · exact z
      · subst y; rw [eO] at z; cases z; exact absurd hk (Nat.lt_irrefl _)
/-- an own thing of slot i is changed -/
theorem RelB.write {i : Nat} {a : Addr} {o o' : HO} {d d' : D} (R : RelB K W P₀ H₀ P O σ st τ ts H g) (h : st[i]? = some (some (.ow d))) (hv : σ[i]? = some (some (.ref a))) (hd : Own K W P a o' d') :
    RelB K W P₀ H₀ P O σ (st.set i (some (.ow d'))) τ ts (upd H a o') g := by
  obtain ⟨v', e1, e2, a', o2, ev, eO, eH, q⟩ := R.slots i _ h
  rw [hv] at e1; cases e1; cases ev
  have own := R.own a _ eO
  have hl : i < st.length := (List.getElem?_eq_some_iff.mp h).1
  have ne : ∀ b t, O b = some t → t ≠ .slot i → b ≠ a := fun b t z ht y => by subst y; rw [eO] at z; exact ht (Option.some.inj z).symm
  refine { R with sub := fun b u z => ?_, base := fun b u z n => ?_, own := fun b t z => ?_, wld := ?_, len := by simp [R.len], slots := fun j s z => ?_, temps := ?_ }
  · rw [upd_ne (ne_of_none z own.1)]; exact R.sub b u z
  · rw [upd_ne (ne_of_none z own.2.1)]; exact R.base b u z n
  · obtain ⟨h1, h2, h3, h4⟩ := R.own b t z
    refine ⟨h1, h2, h3, ?_⟩
    by_cases hb : b = a
    · subst hb; rw [upd_same]; simp
    · rw [upd_ne hb]; exact h4
  · exact W.loc g H _ R.wld (fun b hb => upd_ne fun y => own.2.2.1 (y ▸ hb)) (keep_ne eH q.cod)
  · by_cases hj : j = i
    · subst hj
      rw [List.getElem?_set_self hl] at z; cases z
      exact ⟨_, hv, (fun _ q => nomatch q), a, o', rfl, eO, upd_same, hd⟩
    · rw [List.getElem?_set_ne (Ne.symm hj)] at z
      obtain ⟨v', e1, e2, q⟩ := R.slots j s z
      exact ⟨v', e1, e2, q.mono (Sub.refl P) (fun _ z => z) fun b u z w' => by
        rw [upd_ne (ne b _ z fun y => hj (by cases y; rfl))]; exact w'⟩
  · exact R.temps.mono (Sub.refl P) (fun _ _ _ z => z) fun b u k _ z w' => by
      rw [upd_ne (ne b _ z fun y => nomatch y)]; exact w'
end
/-! ### judgements over readings -/
/-- an expression's reading does f -/
def EvE (K : PySem.W.Frag) (W : Wd G) (t : TE) (f : M G S) : Prop :=
  ∀ (P₀ H₀ : Hp) (σ : L2.St) (st : Sl) (τ : List V) (ts : List S) (H : Hp) (g : G) (r : S) (st' : Sl) (g' : G) (Q : VK),
    Rel K W P₀ H₀ σ st τ ts H g → f st g = some (r, st', g') → (∀ v H', Rel K W P₀ H₀ σ st' (v :: τ) (r :: ts) H' g' → Q v H') → t σ H Q
def EvT (K : PySem.W.Frag) (W : Wd G) (t : TT) (f : M G Bool) : Prop :=
  ∀ (P₀ H₀ : Hp) (σ : L2.St) (st : Sl) (τ : List V) (ts : List S) (H : Hp) (g : G) (r : Bool) (st' : Sl) (g' : G) (Q : Bool → Hp → Prop),
    Rel K W P₀ H₀ σ st τ ts H g → f st g = some (r, st', g') → (∀ H', Rel K W P₀ H₀ σ st' τ ts H' g' → Q r H') → t σ H Q
/-- a family of contexts that differ in nothing that a proof looks at -/
structure CF where
  ι : Type
  X : ι → Cx
  prog : Program
  w : World
  K : PySem.W.Frag
  mg : Str → Option Value
  base : Heap
  N : List Str
  room : Nat
  hP : ∀ j, (X j).prog = prog
  hw : ∀ j, (X j).w = w
  hK : ∀ j, (X j).K = K
  hmg : ∀ j, (X j).mg = mg
  hbase : ∀ j, (X j).base = base
  hN : ∀ j, (X j).N = N
  nd : N.Nodup
  calm : ∀ j, (X j).calm = true
  hr : ∀ j, Room room (X j).A
  hgd : ∀ j, (X j).A.guards = some []
  xe : ∀ j, (X j).xe = fun _ _ => False
theorem CF.nd' (C : CF) (j : C.ι) : (C.X j).N.Nodup := by rw [C.hN j]; exact C.nd
theorem CF.un (C : CF) (j : C.ι) : (C.X j).A.units + 200 < cLine := by have := (C.hr j).un; omega
structure DE (C : CF) (Fam : Wd G → Prop) (e : Expr) (f : M G S) : Prop where
  ex : ∃ t, (∀ j, PE (C.X j) e t) ∧ ∀ W, Fam W → EvE C.K W t f
structure DT (C : CF) (Fam : Wd G → Prop) (e : Expr) (f : M G Bool) : Prop where
  ex : ∃ t, (∀ j, PT (C.X j) e t) ∧ ∀ W, Fam W → EvT C.K W t f
/-! ### names, constants -/
def mVar (i : Nat) : M G S := fun st g =>
  match st[i]? with
  | some (some (.sh d)) => some (.sh d, st, g)
  | some (some (.ow _)) => some (.at i, st, g)
  | _ => none
def mC (d : D) : M G S := fun st g => some (.sh d, st, g)
section
variable {C : CF} {Fam : Wd G → Prop}
theorem ev_var {K : PySem.W.Frag} {W : Wd G} (i : Nat) : EvE K W (tVar i) (mVar i) := by
  intro P₀ H₀ σ st τ ts H g r st' g' Q R h q
  obtain ⟨P, O, R⟩ := R
  unfold mVar at h
  cases e : st[i]? with
  | none => simp [e] at h
  | some x =>
    cases x with
    | none => simp [e] at h
    | some y =>
      obtain ⟨v, e1, e2, z⟩ := R.slot e
      refine ⟨v, e1, q v H ?_⟩
      cases y with
      | sh d =>
        simp only [e, Option.some.injEq, Prod.mk.injEq] at h; obtain ⟨rfl, rfl, rfl⟩ := h
        exact ⟨P, O, R.push z⟩
      | ow d =>
        simp only [e, Option.some.injEq, Prod.mk.injEq] at h; obtain ⟨rfl, rfl, rfl⟩ := h
        exact ⟨P, O, R.pushS e1⟩
      | «at» j => exact absurd rfl (e2 j)
      | any => simp [e] at h
theorem d_var (i : Nat) {x : Str} {pos : Pos} (hN : C.N[i]? = some x := by rfl) (hv : ∀ j, Vis (C.X j).env.scope x := by intro _; first | exact Or.inl rfl | exact Or.inr (Or.inl rfl) | exact Or.inr (Or.inr rfl)) (hd : (x == ("__debug__" : Str)) = false := by decide)
    (hcd : (x == ("__classdict__" : Str)) = false := by decide) : DE C Fam (.Name x pos) (mVar i) := ⟨_, fun j => pe_var (by rw [C.hN j]; exact hN) (hv j) hd hcd, fun _ _ => ev_var i⟩
theorem ev_c {K : PySem.W.Frag} {W : Wd G} {v : V} {d : D} (h : ∀ P, Rep K W P d v) : EvE K W (tC v) (mC d) := by
  intro P₀ H₀ σ st τ ts H g r st' g' Q R e q
  obtain ⟨P, O, R⟩ := R
  simp only [mC, Option.some.injEq, Prod.mk.injEq] at e; obtain ⟨rfl, rfl, rfl⟩ := e
  exact q v H ⟨P, O, R.push (h P)⟩
theorem d_int {i : Int} {j pos} : DE C Fam (.Constant (.int i) j pos) (mC (.int i)) := ⟨_, fun _ => pe_int, fun _ _ => ev_c fun _ => by simp [Rep]⟩
theorem d_bl {b : Bool} {j pos} : DE C Fam (.Constant (.bool b) j pos) (mC (.bl b)) := ⟨_, fun _ => pe_bl, fun _ _ => ev_c fun _ => by simp [Rep]⟩
theorem d_str {x : Str} {j pos} : DE C Fam (.Constant (.str x) j pos) (mC (.str x)) := ⟨_, fun _ => pe_str, fun _ _ => ev_c fun _ => by simp [Rep]⟩
/-! ### operators by values -/
def mOp (op : D → D → Option S) (fa fb : M G S) : M G S := fun st g =>
  bnd (fa st g) fun x st g => bnd (fb st g) fun y st g => (peek x st).bind fun dx => (peek y st).bind fun dy => (op dx dy).map fun z => (z, st, g)
def mUn (op : D → Option S) (fa : M G S) : M G S := fun st g =>
  bnd (fa st g) fun x st g => (peek x st).bind fun dx => (op dx).map fun z => (z, st, g)
/-- what comes of a value z: it lies in the heap H', of which R tells all -/
def B2 (K : PySem.W.Frag) (W : Wd G) (r : R2) (op : D → D → Option S) : Prop :=
  ∀ (P₀ H₀ P : Hp) (O : Addr → Option Tag) (σ : L2.St) (st : Sl) (τ : List V) (ts : List S) (H : Hp) (g : G) (x y : V) (dx dy : D) (z : S) (Q : VK),
    RelB K W P₀ H₀ P O σ st τ ts H g → Rd1 K W P H dx x → Rd1 K W P H dy y → op dx dy = some z → (∀ v H', Rel K W P₀ H₀ σ st (v :: τ) (z :: ts) H' g → Q v H') → r x y H Q
def B1 (K : PySem.W.Frag) (W : Wd G) (r : V → Hp → VK → Prop) (op : D → Option S) : Prop :=
  ∀ (P₀ H₀ P : Hp) (O : Addr → Option Tag) (σ : L2.St) (st : Sl) (τ : List V) (ts : List S) (H : Hp) (g : G) (x : V) (dx : D) (z : S) (Q : VK),
    RelB K W P₀ H₀ P O σ st τ ts H g → Rd1 K W P H dx x → op dx = some z → (∀ v H', Rel K W P₀ H₀ σ st (v :: τ) (z :: ts) H' g → Q v H') → r x H Q
theorem TOk.snd {K : PySem.W.Frag} {W : Wd G} {P H : Hp} {O : Addr → Option Tag} {σ : L2.St} {x y : V} {sx sy : S} {τ : List V} {ts : List S} (h : TOk K W P O H σ (y :: x :: τ) (sy :: sx :: ts)) : SOk K W P O H σ (.tmp τ.length) x sx := h.2.1
theorem ev_op {K : PySem.W.Frag} {W : Wd G} {ta tb : TE} {fa fb : M G S} {r : R2} {op : D → D → Option S} (ha : EvE K W ta fa) (hb : EvE K W tb fb) (ho : B2 K W r op) : EvE K W (tOp r ta tb) (mOp op fa fb) := by
  intro P₀ H₀ σ st τ ts H g z st' g' Q R h q
  obtain ⟨x, st1, g1, e1, h⟩ := bnd_eq h
  obtain ⟨y, st2, g2, e2, h⟩ := bnd_eq h
  obtain ⟨dx, e3, h⟩ := Option.bind_eq_some_iff.mp h
  obtain ⟨dy, e4, h⟩ := Option.bind_eq_some_iff.mp h
  obtain ⟨z', e5, h⟩ := Option.map_eq_some_iff.mp h
  simp only [Prod.mk.injEq] at h; obtain ⟨rfl, rfl, rfl⟩ := h
  refine ha _ _ _ _ _ _ _ _ _ _ _ _ R e1 fun v1 H1 R1 => ?_
  refine hb _ _ _ _ _ _ _ _ _ _ _ _ R1 e2 fun v2 H2 R2 => ?_
  obtain ⟨P, O, R2⟩ := R2
  exact ho _ _ _ _ _ _ _ _ _ _ _ _ _ _ _ _ R2.pop.pop (R2.pop.peekV e3) (R2.peekV e4) e5 q
theorem ev_un {K : PySem.W.Frag} {W : Wd G} {ta : TE} {fa : M G S} {r : V → Hp → VK → Prop} {op : D → Option S} (ha : EvE K W ta fa) (ho : B1 K W r op) : EvE K W (tUn r ta) (mUn op fa) := by
  intro P₀ H₀ σ st τ ts H g z st' g' Q R h q
  obtain ⟨x, st1, g1, e1, h⟩ := bnd_eq h
  obtain ⟨dx, e3, h⟩ := Option.bind_eq_some_iff.mp h
  obtain ⟨z', e5, h⟩ := Option.map_eq_some_iff.mp h
  simp only [Prod.mk.injEq] at h; obtain ⟨rfl, rfl, rfl⟩ := h
  refine ha _ _ _ _ _ _ _ _ _ _ _ _ R e1 fun v1 H1 R1 => ?_
  obtain ⟨P, O, R1⟩ := R1
  exact ho _ _ _ _ _ _ _ _ _ _ _ _ _ _ R1.pop (R1.peekV e3) e5 q
variable {a b : Expr} {fa fb : M G S} {pos : Pos}
theorem d_op {op : Operator} {r : R2} {f : D → D → Option S} (ho : ∀ j, OpR (C.X j) (binaryOp op) r) (hf : ∀ W, Fam W → B2 C.K W r f) (ha : DE C Fam a fa) (hb : DE C Fam b fb) : DE C Fam (.BinOp a op b pos) (mOp f fa fb) := by
  obtain ⟨ta, pa, ea⟩ := ha.ex
  obtain ⟨tb, pb, eb⟩ := hb.ex
  exact ⟨_, fun j => pe_op (ho j) (pa j) (pb j), fun W h => ev_op (ea W h) (eb W h) (hf W h)⟩
theorem d_cmp {op : CmpOp} {r : R2} {f : D → D → Option S} (ho : ∀ j, OpR (C.X j) (compareOp op) r) (hf : ∀ W, Fam W → B2 C.K W r f) (ha : DE C Fam a fa) (hb : DE C Fam b fb) (hm : behindInMarks op b = false := by first | exact nobehind _ (by decide) (by decide) | rfl) : DE C Fam (.Compare a [op] [b] pos) (mOp f fa fb) := by
  obtain ⟨ta, pa, ea⟩ := ha.ex
  obtain ⟨tb, pb, eb⟩ := hb.ex
  exact ⟨_, fun j => pe_cmpR (ho j) (pa j) (pb j) hm, fun W h => ev_op (ea W h) (eb W h) (hf W h)⟩
theorem d_un {op : UnaryOp} {r : V → Hp → VK → Prop} {f : D → Option S} (ho : ∀ j, UnR (C.X j) (unaryOp op) r) (hf : ∀ W, Fam W → B1 C.K W r f) (ha : DE C Fam a fa) : DE C Fam (.UnaryOp op a pos) (mUn f fa) := by
  obtain ⟨ta, pa, ea⟩ := ha.ex
  exact ⟨_, fun j => pe_un (ho j) (pa j), fun W h => ev_un (ea W h) (hf W h)⟩
/-! ### tests -/
def mTest (f : M G S) : M G Bool := fun st g => bnd (f st g) fun x st g => match x with
  | .sh (.bl b) => some (b, st, g)
  | _ => none
theorem rep_bl {K : PySem.W.Frag} {W : Wd G} {P : Hp} {b : Bool} {v : V} (h : Rep K W P (.bl b) v) : v = .bl b := by simpa only [Rep] using h
theorem ev_test {K : PySem.W.Frag} {W : Wd G} {ta : TE} {fa : M G S} (ha : EvE K W ta fa) : EvT K W (tB ta) (mTest fa) := by
  intro P₀ H₀ σ st τ ts H g z st' g' Q R h q
  obtain ⟨x, st1, g1, e1, h⟩ := bnd_eq h
  refine ha _ _ _ _ _ _ _ _ _ _ _ _ R e1 fun v1 H1 R1 => ?_
  cases x with
  | sh d =>
    cases d with
    | bl b =>
      simp only [Option.some.injEq, Prod.mk.injEq] at h; obtain ⟨rfl, rfl, rfl⟩ := h
      obtain ⟨P, O, R1⟩ := R1
      exact ⟨b, rep_bl (K := K) (W := W) (P := P) R1.temps.1, q H1 ⟨P, O, R1.pop⟩⟩
    | _ => cases h
  | _ => cases h
theorem d_test (ha : DE C Fam a fa) (he : ∀ j whole, isTrue a (C.X j).env whole = (do let v ← whole; standAt a.pos; holding [v] (truthy v)) := by intro _ _; rfl) : DT C Fam a (mTest fa) := by
  obtain ⟨ta, pa, ea⟩ := ha.ex
  exact ⟨_, fun j => pt_val (pa j) (he j), fun W h => ev_test (ea W h)⟩
theorem d_tcmp {op : CmpOp} {r : R2} {f : D → D → Option S} (ho : ∀ j, OpR (C.X j) (compareOp op) r) (hf : ∀ W, Fam W → B2 C.K W r f) (ha : DE C Fam a fa) (hb : DE C Fam b fb) (hm : behindInMarks op b = false := by first | exact nobehind _ (by decide) (by decide) | rfl) : DT C Fam (.Compare a [op] [b] pos) (mTest (mOp f fa fb)) := by
  obtain ⟨ta, pa, ea⟩ := ha.ex
  obtain ⟨tb, pb, eb⟩ := hb.ex
  exact ⟨_, fun j => pt_cmpR (ho j) (pa j) (pb j) hm, fun W h => ev_test (ev_op (ea W h) (eb W h) (hf W h))⟩
def mAnd (x y : M G Bool) : M G Bool := fun st g => bnd (x st g) fun b st g => if b = true then y st g else some (false, st, g)
def mOr (x y : M G Bool) : M G Bool := fun st g => bnd (x st g) fun b st g => if b = true then some (true, st, g) else y st g
def mNot (x : M G Bool) : M G Bool := fun st g => bnd (x st g) fun b st g => some (!b, st, g)
def mOfB (x : M G Bool) : M G S := fun st g => bnd (x st g) fun b st g => some (.sh (.bl b), st, g)
def mIf {α : Type} (c : M G Bool) (x y : M G α) : M G α := fun st g => bnd (c st g) fun b st g => if b = true then x st g else y st g
/-- a test, whatever its whole is -/
structure DW (C : CF) (Fam : Wd G → Prop) (e : Expr) (f : M G Bool) : Prop where
  ex : ∃ t, (∀ j, PW (C.X j) e t) ∧ ∀ W, Fam W → EvT C.K W t f
theorem DW.dt {e : Expr} {f : M G Bool} (h : DW C Fam e f) : DT C Fam e f := let ⟨t, p, q⟩ := h.ex; ⟨t, fun j => (p j).pt, q⟩
variable {x y : M G Bool} {rest : List Expr}
theorem w_and1 (ha : DT C Fam a x) : DW C Fam (.BoolOp .And [a] pos) x := let ⟨t, p, q⟩ := ha.ex; ⟨t, fun j => pw_and1 (p j), q⟩
theorem w_or1 (ha : DT C Fam a x) : DW C Fam (.BoolOp .Or [a] pos) x := let ⟨t, p, q⟩ := ha.ex; ⟨t, fun j => pw_or1 (p j), q⟩
theorem w_and (ha : DT C Fam a x) (hb : DW C Fam (.BoolOp .And (b :: rest) pos) y) : DW C Fam (.BoolOp .And (a :: b :: rest) pos) (mAnd x y) := by
  obtain ⟨ta, pa, ea⟩ := ha.ex
  obtain ⟨tb, pb, eb⟩ := hb.ex
  refine ⟨_, fun j => pw_and (pa j) (pb j), fun W hW => ?_⟩
  intro P₀ H₀ σ st τ ts H g z st' g' Q R h q
  obtain ⟨c, st1, g1, e1, h⟩ := bnd_eq h
  refine ea W hW _ _ _ _ _ _ _ _ _ _ _ _ R e1 fun H1 R1 => ?_
  cases c with
  | true => rw [if_pos rfl] at h ⊢; exact eb W hW _ _ _ _ _ _ _ _ _ _ _ _ R1 h q
  | false =>
    rw [if_neg (by simp)] at h ⊢
    simp only [Option.some.injEq, Prod.mk.injEq] at h; obtain ⟨rfl, rfl, rfl⟩ := h
    exact q H1 R1
theorem w_or (ha : DT C Fam a x) (hb : DW C Fam (.BoolOp .Or (b :: rest) pos) y) : DW C Fam (.BoolOp .Or (a :: b :: rest) pos) (mOr x y) := by
  obtain ⟨ta, pa, ea⟩ := ha.ex
  obtain ⟨tb, pb, eb⟩ := hb.ex
  refine ⟨_, fun j => pw_or (pa j) (pb j), fun W hW => ?_⟩
  intro P₀ H₀ σ st τ ts H g z st' g' Q R h q
  obtain ⟨c, st1, g1, e1, h⟩ := bnd_eq h
  refine ea W hW _ _ _ _ _ _ _ _ _ _ _ _ R e1 fun H1 R1 => ?_
  cases c with
  | false => rw [if_neg (by simp)] at h ⊢; exact eb W hW _ _ _ _ _ _ _ _ _ _ _ _ R1 h q
  | true =>
    rw [if_pos rfl] at h ⊢
    simp only [Option.some.injEq, Prod.mk.injEq] at h; obtain ⟨rfl, rfl, rfl⟩ := h
    exact q H1 R1
theorem d_not (ha : DT C Fam a x) : DT C Fam (.UnaryOp .Not a pos) (mNot x) := by
  obtain ⟨ta, pa, ea⟩ := ha.ex
  refine ⟨_, fun j => pt_not (pa j), fun W hW => ?_⟩
  intro P₀ H₀ σ st τ ts H g z st' g' Q R h q
  obtain ⟨c, st1, g1, e1, h⟩ := bnd_eq h
  refine ea W hW _ _ _ _ _ _ _ _ _ _ _ _ R e1 fun H1 R1 => ?_
  simp only [Option.some.injEq, Prod.mk.injEq] at h; obtain ⟨rfl, rfl, rfl⟩ := h
  exact q H1 R1
theorem d_ifx {c : Expr} {f1 f2 : M G S} (hc : DT C Fam c x) (ha : DE C Fam a f1) (hb : DE C Fam b f2) : DE C Fam (.IfExp c a b pos) (mIf x f1 f2) := by
  obtain ⟨tc, pc, ec⟩ := hc.ex
  obtain ⟨ta, pa, ea⟩ := ha.ex
  obtain ⟨tb, pb, eb⟩ := hb.ex
  refine ⟨_, fun j => pe_ifExp (pc j) (pa j) (pb j), fun W hW => ?_⟩
  intro P₀ H₀ σ st τ ts H g z st' g' Q R h q
  obtain ⟨c, st1, g1, e1, h⟩ := bnd_eq h
  refine ec W hW _ _ _ _ _ _ _ _ _ _ _ _ R e1 fun H1 R1 => ?_
  cases c with
  | true => rw [if_pos rfl] at h ⊢; exact ea W hW _ _ _ _ _ _ _ _ _ _ _ _ R1 h q
  | false => rw [if_neg (by simp)] at h ⊢; exact eb W hW _ _ _ _ _ _ _ _ _ _ _ _ R1 h q
/-! values of and, or, not where the parts are truths -/
def mAndV (f g : M G S) : M G S := mIf (mTest f) g (mC (.bl false))
def mOrV (f g : M G S) : M G S := mIf (mTest f) (mC (.bl true)) g
theorem d_one {op} {f : M G S} (h : DE C Fam a f) : DE C Fam (.BoolOp op [a] pos) f := let ⟨t, p, q⟩ := h.ex; ⟨t, fun j => pe_one (p j), q⟩
theorem d_andV {f1 f2 : M G S} (ha : DE C Fam a f1) (hb : DE C Fam (.BoolOp .And (b :: rest) pos) f2) : DE C Fam (.BoolOp .And (a :: b :: rest) pos) (mAndV f1 f2) := by
  obtain ⟨ta, pa, ea⟩ := ha.ex
  obtain ⟨tb, pb, eb⟩ := hb.ex
  refine ⟨_, fun j => pe_and (pa j) (pb j), fun W hW => ?_⟩
  intro P₀ H₀ σ st τ ts H g z st' g' Q R h q
  obtain ⟨c, st1, g1, e1, h⟩ := bnd_eq h
  have hc := ev_test (ea W hW) _ _ _ _ _ _ _ _ _ _ _ (fun c H' => if c = true then tb σ H' Q else Q (.bl false) H') R e1 fun H1 R1 => by
    cases c with
    | true => rw [if_pos rfl] at h ⊢; exact eb W hW _ _ _ _ _ _ _ _ _ _ _ _ R1 h q
    | false =>
      rw [if_neg (by simp)] at h ⊢
      simp only [mC, Option.some.injEq, Prod.mk.injEq] at h; obtain ⟨rfl, rfl, rfl⟩ := h
      obtain ⟨P, O, R1⟩ := R1
      exact q _ _ ⟨P, O, R1.push (by simp [Rep])⟩
  exact hc
theorem d_notV {f : M G S} (ha : DE C Fam a f) : DE C Fam (.UnaryOp .Not a pos) (mOfB (mNot (mTest f))) := by
  obtain ⟨ta, pa, ea⟩ := ha.ex
  refine ⟨_, fun j => pe_not (pa j), fun W hW => ?_⟩
  intro P₀ H₀ σ st τ ts H g z st' g' Q R h q
  obtain ⟨c, st1, g1, e1, h⟩ := bnd_eq h
  obtain ⟨c', st2, g2, e2, h2⟩ := bnd_eq e1
  have hc := ev_test (ea W hW) _ _ _ _ _ _ _ _ _ _ _ (fun c H' => Q (.bl (!c)) H') R e2 fun H1 R1 => by
    simp only [Option.some.injEq, Prod.mk.injEq] at h h2; obtain ⟨rfl, rfl, rfl⟩ := h2; obtain ⟨rfl, rfl, rfl⟩ := h
    obtain ⟨P, O, R1⟩ := R1
    exact q _ _ ⟨P, O, R1.push (by simp [Rep])⟩
  exact hc
end
end DL
namespace DL
open PySem PySem.Spec L2
variable {G : Type}
section
variable {K : PySem.W.Frag} {W : Wd G} {P₀ H₀ P H : Hp} {O : Addr → Option Tag} {σ : L2.St} {st st' : Sl} {τ : List V} {ts : List S} {g : G} {v : V} {s : S} {d : D}
theorem Reps.length : ∀ {ds : List D} {vs : List V}, Reps K W P ds vs → vs.length = ds.length
  | [], vs, h => by simp only [Reps] at h; subst h; rfl
  | d :: ds, vs, h => by
    simp only [Reps] at h
    obtain ⟨v, r, rfl, _, h2⟩ := h
    simp [Reps.length h2]
theorem Reps.get : ∀ {ds : List D} {vs : List V} {i : Nat} {d : D}, Reps K W P ds vs → ds[i]? = some d → ∃ v, vs[i]? = some v ∧ Rep K W P d v
  | [], vs, i, d, _, e => by simp at e
  | d :: ds, vs, 0, d', h, e => by
    simp only [Reps] at h
    obtain ⟨v, r, rfl, h1, h2⟩ := h
    simp at e; subst e
    exact ⟨v, by simp, h1⟩
  | d :: ds, vs, i + 1, d', h, e => by
    simp only [Reps] at h
    obtain ⟨v, r, rfl, h1, h2⟩ := h
    simp at e
    obtain ⟨w', e1, e2⟩ := Reps.get h2 e
    exact ⟨w', by simpa using e1, e2⟩
theorem Reps.append : ∀ {ds es : List D} {vs ws : List V}, Reps K W P ds vs → Reps K W P es ws → Reps K W P (ds ++ es) (vs ++ ws)
  | [], es, vs, ws, h, h2 => by simp only [Reps] at h; subst h; exact h2
  | d :: ds, es, vs, ws, h, h2 => by
    simp only [Reps] at h
    obtain ⟨v, r, rfl, h1, h3⟩ := h
    rw [List.cons_append, List.cons_append]
    simp only [Reps]
    exact ⟨v, r ++ ws, rfl, h1, Reps.append h3 h2⟩
theorem Reps.one {d : D} {v : V} (h : Rep K W P d v) : Reps K W P [d] [v] := by
  simp only [Reps]
  exact ⟨v, [], rfl, h, rfl⟩
theorem Reps.drop : ∀ {ds : List D} {vs : List V} (n : Nat), Reps K W P ds vs → Reps K W P (ds.drop n) (vs.drop n)
  | ds, vs, 0, h => h
  | [], vs, n + 1, h => by simp only [Reps] at h; subst h; simp [Reps]
  | d :: ds, vs, n + 1, h => by
    simp only [Reps] at h
    obtain ⟨v, r, rfl, h1, h3⟩ := h
    exact Reps.drop n h3
theorem Reps.take : ∀ {ds : List D} {vs : List V} (n : Nat), Reps K W P ds vs → Reps K W P (ds.take n) (vs.take n)
  | ds, vs, 0, h => by simp [Reps]
  | [], vs, n + 1, h => by simp only [Reps] at h; subst h; simp [Reps]
  | d :: ds, vs, n + 1, h => by
    simp only [Reps] at h
    obtain ⟨v, r, rfl, h1, h3⟩ := h
    rw [List.take_succ_cons, List.take_succ_cons]
    simp only [Reps]
    exact ⟨v, _, rfl, h1, Reps.take n h3⟩
theorem TOk.len : ∀ {τ : List V} {ts : List S}, TOk K W P O H σ τ ts → τ.length = ts.length
  | [], [], _ => rfl
  | _ :: _, _ :: _, h => by simp [TOk.len h.2]
  | [], _ :: _, h => h.elim
  | _ :: _, [], h => h.elim
theorem TOk.drop : ∀ {ρ τ : List V} {rs ts : List S}, ρ.length = rs.length → TOk K W P O H σ (ρ ++ τ) (rs ++ ts) → TOk K W P O H σ τ ts
  | [], τ, [], ts, _, h => h
  | v :: ρ, τ, s :: rs, ts, e, h => TOk.drop (by simpa using e) h.2
  | [], _, _ :: _, _, e, _ => by simp at e
  | _ :: _, _, [], _, e, _ => by simp at e
theorem RelB.drop {ρ : List V} {rs : List S} (R : RelB K W P₀ H₀ P O σ st (ρ ++ τ) (rs ++ ts) H g) (e : ρ.length = rs.length) : RelB K W P₀ H₀ P O σ st τ ts H g :=
  { R with temps := R.temps.drop e }
theorem Rel.drop {ρ : List V} {rs : List S} (R : Rel K W P₀ H₀ σ st (ρ ++ τ) (rs ++ ts) H g) (e : ρ.length = rs.length) : Rel K W P₀ H₀ σ st τ ts H g :=
  let ⟨P, O, R⟩ := R; ⟨P, O, R.drop e⟩
theorem Rel.pop (R : Rel K W P₀ H₀ σ st (v :: τ) (s :: ts) H g) : Rel K W P₀ H₀ σ st τ ts H g := let ⟨P, O, R⟩ := R; ⟨P, O, R.pop⟩
/-- the shared value on top stays when what lies below it is let go -/
theorem Rel.keepTop {ρ : List V} {rs : List S} (R : Rel K W P₀ H₀ σ st (v :: (ρ ++ τ)) (.sh d :: (rs ++ ts)) H g) (e : ρ.length = rs.length) : Rel K W P₀ H₀ σ st (v :: τ) (.sh d :: ts) H g := by
  obtain ⟨P, O, R⟩ := R
  exact ⟨P, O, (R.pop.drop e).push R.temps.1⟩
theorem NoAt.app {a b : List S} (h : NoAt a) (h2 : NoAt b) : NoAt (a ++ b) := fun i q => (List.mem_append.mp q).elim (h i) (h2 i)
end
/-! ### arguments -/
def EvA' (K : PySem.W.Frag) (W : Wd G) (t : TA) (f : M G (List D)) : Prop :=
  ∀ (P₀ H₀ : Hp) (σ : L2.St) (st : Sl) (τ : List V) (ts : List S) (H : Hp) (g : G) (ds : List D) (st' : Sl) (g' : G) (Q : List V → Hp → Prop),
    Rel K W P₀ H₀ σ st τ ts H g → f st g = some (ds, st', g') → (∀ vs H' P O, RelB K W P₀ H₀ P O σ st' τ ts H' g' → Reps K W P ds vs → Q vs H') → t σ H Q
structure DAs (C : CF) (Fam : Wd G → Prop) (es : List Expr) (f : M G (List D)) : Prop where
  ex : ∃ t, (∀ j, PA (C.X j) es t) ∧ ∀ W, Fam W → EvA' C.K W t f
  len : ∀ st g ds st' g', f st g = some (ds, st', g') → ds.length = es.length
def mTake (f : M G S) : M G D := fun st g => bnd (f st g) fun x st g => (take x st).map fun p => (p.1, p.2, g)
def mNil : M G (List D) := fun st g => some ([], st, g)
def mCons (f : M G S) (r : M G (List D)) : M G (List D) := fun st g => bnd (mTake f st g) fun d st g => bnd (r st g) fun ds st g => some (d :: ds, st, g)
theorem mTake_eq {f : M G S} {st st' : Sl} {g g' : G} {d : D} (h : mTake f st g = some (d, st', g')) : ∃ x st1, f st g = some (x, st1, g') ∧ take x st1 = some (d, st') := by
  obtain ⟨x, st1, g1, e1, h⟩ := bnd_eq h
  obtain ⟨p, e2, h⟩ := Option.map_eq_some_iff.mp h
  simp only [Prod.mk.injEq] at h; obtain ⟨rfl, rfl, rfl⟩ := h
  exact ⟨x, st1, e1, e2⟩
section
variable {C : CF} {Fam : Wd G → Prop} {e : Expr} {es : List Expr} {pos : Pos}
theorem a_nil : DAs C Fam [] mNil := ⟨⟨_, fun _ => pa_nil, fun W hW P₀ H₀ σ st τ ts H g ds st' g' Q R h q => by
  simp only [mNil, Option.some.injEq, Prod.mk.injEq] at h; obtain ⟨rfl, rfl, rfl⟩ := h
  obtain ⟨P, O, R⟩ := R
  exact q [] H P O R (by simp [Reps])⟩, fun st g ds st' g' h => by
  simp only [mNil, Option.some.injEq, Prod.mk.injEq] at h; obtain ⟨rfl, rfl, rfl⟩ := h; rfl⟩
theorem a_cons {f : M G S} {r : M G (List D)} (he : DE C Fam e f) (hr : DAs C Fam es r) (hs : ∀ j, starEach (e :: es) (C.X j).env = (false, eval e (C.X j).env) :: starEach es (C.X j).env := by intro _; rfl) : DAs C Fam (e :: es) (mCons f r) := by
  obtain ⟨ta, pa, ea⟩ := he.ex
  obtain ⟨tb, pb, eb⟩ := hr.ex
  refine ⟨⟨_, fun j => pa_cons (pa j) (pb j) (hs j), fun W hW P₀ H₀ σ st τ ts H g ds st' g' Q R h q => ?_⟩, fun st g ds st' g' h => by
    obtain ⟨d, st1, g1, e1, h⟩ := bnd_eq h
    obtain ⟨ds', st2, g2, e2, h⟩ := bnd_eq h
    simp only [Option.some.injEq, Prod.mk.injEq] at h; obtain ⟨rfl, rfl, rfl⟩ := h
    rw [List.length_cons, List.length_cons, hr.len _ _ _ _ _ e2]⟩
  obtain ⟨d, st1, g1, e1, h⟩ := bnd_eq h
  obtain ⟨ds', st2, g2, e2, h⟩ := bnd_eq h
  simp only [Option.some.injEq, Prod.mk.injEq] at h; obtain ⟨rfl, rfl, rfl⟩ := h
  obtain ⟨x, st0, e3, e4⟩ := mTake_eq e1
  refine ea W hW _ _ _ _ _ _ _ _ _ _ _ _ R e3 fun v H1 R1 => ?_
  obtain ⟨P, O, R1⟩ := R1
  obtain ⟨P', O', R1⟩ := R1.takeV e4
  refine eb W hW _ _ _ _ _ _ _ _ _ _ _ _ ⟨P', O', R1⟩ e2 fun vs H2 P2 O2 R2 rp => ?_
  refine q (v :: vs) H2 P2 O2 R2.pop ?_
  simp only [Reps]
  exact ⟨v, vs, rfl, R2.temps.1, rp⟩
/-! tuples, lists -/
def mTup (f : M G (List D)) : M G S := fun st g => bnd (f st g) fun ds st g => if ds.length ≤ sizeLine then some (.sh (.tup ds), st, g) else none
def mLst (f : M G (List D)) : M G S := fun st g => bnd (f st g) fun ds st g => if ds.length ≤ sizeLine then some (.ow (.lst ds), st, g) else none
theorem d_tup {f : M G (List D)} {k : Nat} (h : DAs C Fam es f) : DE C Fam (.Tuple es k pos) (mTup f) := by
  obtain ⟨ta, pa, ea⟩ := h.ex
  refine ⟨_, fun j => DY.pe_tupF (pa j), fun W hW P₀ H₀ σ st τ ts H g r st' g' Q R h q => ?_⟩
  obtain ⟨ds, st1, g1, e1, h⟩ := bnd_eq h
  refine ea W hW _ _ _ _ _ _ _ _ _ _ _ _ R e1 fun vs H1 P O R1 rp => ?_
  split at h
  · rename_i hz
    simp only [Option.some.injEq, Prod.mk.injEq] at h; obtain ⟨rfl, rfl, rfl⟩ := h
    refine ⟨by rw [rp.length]; exact hz, fun p ob hp hd => q _ _ ⟨_, O, (R1.laid hp).push ?_⟩⟩
    simp only [Rep]
    refine ⟨p, vs, rfl, .new upd_same hd, hz, Reps.mono (fun a u z => ?_) _ _ rp⟩
    rw [upd_ne fun y => ?_]
    · exact z
    · subst y; have := R1.sub _ _ z; rw [hp] at this; cases this
  · cases h
theorem d_lst {f : M G (List D)} (h : DAs C Fam es f) : DE C Fam (.List es pos) (mLst f) := by
  obtain ⟨ta, pa, ea⟩ := h.ex
  refine ⟨_, fun j => pe_lst (pa j), fun W hW P₀ H₀ σ st τ ts H g r st' g' Q R h q => ?_⟩
  obtain ⟨ds, st1, g1, e1, h⟩ := bnd_eq h
  refine ea W hW _ _ _ _ _ _ _ _ _ _ _ _ R e1 fun vs H1 P O R1 rp => ?_
  split at h
  · rename_i hz
    simp only [Option.some.injEq, Prod.mk.injEq] at h; obtain ⟨rfl, rfl, rfl⟩ := h
    refine ⟨by rw [rp.length]; exact hz, fun p hp => ?_⟩
    obtain ⟨O', R2⟩ := R1.laidOwn (d := .lst ds) hp ⟨vs, rfl, hz, rp⟩
    exact q _ _ ⟨P, O', R2⟩
  · cases h
end
/-! ### the promise of a def -/
def Ent (W : Wd G) (P H : Hp) (g : G) : Prop := Sub P H ∧ (∀ a, P a ≠ none → ¬ W.fp a) ∧ W.holds g H
structure Out (W : Wd G) (P H P' H' : Hp) (g' : G) : Prop where
  pp : Sub P P'
  sub : Sub P' H'
  nfp : ∀ a, P' a ≠ none → ¬ W.fp a
  new : ∀ a, P' a ≠ none → P a ≠ none ∨ H a = none
  same : ∀ a o, H a = some o → ¬ W.fp a → H' a = some o
  wld : W.holds g' H'
abbrev Fn (G : Type) := List D → G → Option (D × G)
def spF (K : PySem.W.Frag) (Fam : Wd G → Prop) (n : Nat) (F : Fn G) : Sp := fun vs H Q _ =>
  ∃ (W : Wd G) (P : Hp) (ds : List D) (g : G) (d : D) (g' : G), Fam W ∧ vs.length = n ∧ Ent W P H g ∧ Reps K W P ds vs ∧ F ds g = some (d, g') ∧
    ∀ v H' P', Out W P H P' H' g' → Rep K W P' d v → Q v H'
/-- the def x is there and does F, by level k -/
structure FD (P : Program) (w : World) (K : PySem.W.Frag) (mg : Str → Option Value) (base : Heap) (Fam : Wd G → Prop) (k : Nat) (x : Str) (n : Nat) (F : Fn G) : Prop where
  ex : ∃ f fd ps, DZ.FnG P w K mg base CX0 k f fd ps (spF K Fam n F) ∧ mg x = some (.ref f) ∧ PySem.W.keepIn K (.ref f) = true ∧ Binds K fd ps []
theorem FD.mono {P : Program} {w : World} {K : PySem.W.Frag} {mg : Str → Option Value} {base : Heap} {Fam : Wd G → Prop} {j k n : Nat} {x : Str} {F : Fn G} (h : FD P w K mg base Fam j x n F) (hk : j ≤ k) : FD P w K mg base Fam k x n F :=
  let ⟨f, fd, ps, a, b, c, d⟩ := h.ex; ⟨f, fd, ps, a.mono hk, b, c, d⟩
/-- what is told of less -/
theorem FD.imp {P : Program} {w : World} {K : PySem.W.Frag} {mg : Str → Option Value} {base : Heap} {Fam : Wd G → Prop} {k n : Nat} {x : Str} {F F' : Fn G} (h : FD P w K mg base Fam k x n F) (hF : ∀ ds g r, ds.length = n → F' ds g = some r → F ds g = some r) : FD P w K mg base Fam k x n F' := by
  obtain ⟨f, fd, ps, a, b, c, d⟩ := h.ex
  refine ⟨f, fd, ps, a.imp fun vs H Q E q => ?_, b, c, d⟩
  obtain ⟨W, P, ds, g, dd, g', h1, h2, h3, h4, h5, h6⟩ := q
  exact ⟨W, P, ds, g, dd, g', h1, h2, h3, h4, hF _ _ _ (by rw [← h4.length]; exact h2) h5, h6⟩
def mCall (F : Fn G) (fa : M G (List D)) : M G S := fun st g => bnd (fa st g) fun ds st g => (F ds g).map fun p => (.sh p.1, st, p.2)
section
variable {C : CF} {Fam : Wd G → Prop} {e : Expr} {es : List Expr} {pos p : Pos} {K : PySem.W.Frag} {W : Wd G} {P₀ H₀ P H : Hp} {O : Addr → Option Tag} {σ : L2.St} {st st' : Sl} {τ : List V} {ts : List S} {g g' : G} {v : V} {d : D}
theorem RelB.ent (R : RelB K W P₀ H₀ P O σ st τ ts H g) : Ent W P H g := ⟨R.sub, R.nfp, R.wld⟩
theorem RelB.out {P' H' : Hp} (R : RelB K W P₀ H₀ P O σ st τ ts H g) (o : Out W P H P' H' g') : RelB K W P₀ H₀ P' O σ st τ ts H' g' := by
  refine ⟨o.sub, fun a u e n => o.same a u (R.base a u e n) n, R.p0.trans o.pp, fun a e => ?_, o.nfp, fun a t e => ?_, o.wld, R.len, fun i s e => ?_, ?_⟩
  · rcases o.new a e with h | h
    · exact R.new a h
    · right
      cases q : H₀ a with
      | none => rfl
      | some u => have := R.base a u q (o.nfp a e); rw [h] at this; cases this
  · obtain ⟨h1, h2, h3, h4⟩ := R.own a t e
    refine ⟨?_, h2, h3, ?_⟩
    · cases q : P' a with
      | none => rfl
      | some u =>
        rcases o.new a (by rw [q]; simp) with h | h
        · exact absurd h1 h
        · exact absurd h h4
    · cases q : H a with
      | none => exact absurd q h4
      | some u => rw [o.same a u q h3]; simp
  · obtain ⟨v, e1, e2, q⟩ := R.slots i s e
    exact ⟨v, e1, e2, q.mono o.pp (fun _ z => z) fun a u z y => o.same a u y (R.own a _ z).2.2.1⟩
  · exact R.temps.mono o.pp (fun _ _ _ z => z) fun a u k _ z y => o.same a u y (R.own a _ z).2.2.1
theorem d_call {x : Str} {k n : Nat} {F : Fn G} {fa : M G (List D)} (h : FD C.prog C.w C.K C.mg C.base Fam k x n F) (ha : DAs C Fam (e :: es) fa) (hk : k ≤ C.room := by decide) (hg : ∀ j, Gl (C.X j) x := by intro _; rfl) (hn : (e :: es).length = n := by rfl) (hdb : (x == ("__debug__" : Str)) = false := by decide)
    (he : ∀ j, starEach (e :: es) (C.X j).env = (false, eval e (C.X j).env) :: starEach es (C.X j).env := by intro _; rfl) (hpl : ∀ j, (backTo pos (starEach es (C.X j).env)).any (·.1) = false := by intro _; rfl) :
    DE C Fam (.Call (.Name x p) (e :: es) [] pos) (mCall F fa) := by
  obtain ⟨f, fd, ps, a, b, c, dd⟩ := h.ex
  obtain ⟨ta, pa, ea⟩ := ha.ex
  refine ⟨_, fun j => DZ.pe_callG (by rw [C.hP, C.hw, C.hK, C.hmg, C.hbase]; exact a) ((C.hr j).mono hk) (C.hgd j) (hg j) (by rw [C.hmg]; exact b) (by rw [C.hK]; exact c) (by rw [C.hK]; exact dd) (pass0 (X := C.X j)) (pa j) hdb (he j) (hpl j), fun W hW P₀ H₀ σ st τ ts H g r st' g' Q R h q => ?_⟩
  obtain ⟨ds, st1, g1, e1, h⟩ := bnd_eq h
  obtain ⟨⟨d, g2⟩, e2, h⟩ := Option.map_eq_some_iff.mp h
  simp only [Prod.mk.injEq] at h; obtain ⟨rfl, rfl, rfl⟩ := h
  refine ea W hW _ _ _ _ _ _ _ _ _ _ _ _ R e1 fun vs H1 P O R1 rp => ?_
  have hlen := (ha.len _ _ _ _ _ e1).trans hn
  exact ⟨W, P, ds, g1, d, g2, hW, by rw [rp.length]; exact hlen, R1.ent, rp, e2, fun v H' P' o rv => q v H' ⟨P', O, (R1.out o).push rv⟩⟩
end
end DL
namespace DL
open PySem PySem.Spec L2
variable {G : Type}
/-! ### statements -/
inductive Fl where
  | nx | rt (d : D) | bk | ct
def EndOk (K : PySem.W.Frag) (W : Wd G) (P₀ H₀ : Hp) (τ : List V) (ts : List S) (E : Ends) (st' : Sl) (g' : G) : Fl → Prop
  | .nx => ∀ σ' H', Rel K W P₀ H₀ σ' st' τ ts H' g' → E.nx σ' H'
  | .rt d => ∀ σ' v H', Rel K W P₀ H₀ σ' st' (v :: τ) (.sh d :: ts) H' g' → E.rt v H'
  | .bk => ∀ σ' H', Rel K W P₀ H₀ σ' st' τ ts H' g' → E.bk σ' H'
  | .ct => ∀ σ' H', Rel K W P₀ H₀ σ' st' τ ts H' g' → E.ct σ' H'
def EvS (K : PySem.W.Frag) (W : Wd G) (t : TS) (f : M G Fl) : Prop :=
  ∀ (P₀ H₀ : Hp) (σ : L2.St) (st : Sl) (τ : List V) (ts : List S) (H : Hp) (g : G) (fl : Fl) (st' : Sl) (g' : G) (E : Ends),
    NoAt ts → Rel K W P₀ H₀ σ st τ ts H g → f st g = some (fl, st', g') → EndOk K W P₀ H₀ τ ts E st' g' fl → t E σ H
structure DS (C : CF) (Fam : Wd G → Prop) (st : Stmt) (f : M G Fl) : Prop where
  ex : ∃ t, (∀ j, PS (C.X j) st t) ∧ ∀ W, Fam W → EvS C.K W t f
structure DSs (C : CF) (Fam : Wd G → Prop) (st : List Stmt) (f : M G Fl) : Prop where
  ex : ∃ t, (∀ j, PSs (C.X j) st t) ∧ ∀ W, Fam W → EvS C.K W t f
def mNext : M G Fl := fun st g => some (.nx, st, g)
def mSeq (a b : M G Fl) : M G Fl := fun st g => bnd (a st g) fun fl st g => match fl with
  | .nx => b st g
  | .rt d => some (.rt d, st, g)
  | .bk => some (.bk, st, g)
  | .ct => some (.ct, st, g)
def mRet (f : M G S) : M G Fl := fun st g => bnd (mTake f st g) fun d st g => some (.rt d, st, g)
def mDrop (f : M G S) : M G Fl := fun st g => bnd (f st g) fun _ st g => some (.nx, st, g)
/-- x = e -/
def mSet (i : Nat) (f : M G S) : M G Fl := fun st g => bnd (f st g) fun x st g => if i < st.length then
    (match x with
    | .sh d => some (.nx, st.set i (some (.sh d)), g)
    | .ow d => some (.nx, st.set i (some (.ow d)), g)
    | .at j => (take (.at j) st).map fun p => (.nx, p.2.set i (some (.sh p.1)), g)
    | .any => none)
  else none
section
variable {C : CF} {Fam : Wd G → Prop} {e : Expr} {es : List Expr} {pos : Pos} {s1 : Stmt} {rest : List Stmt} {a b : M G Fl}
theorem s_nil : DSs C Fam [] mNext := ⟨_, fun _ => pss_nil, fun W hW P₀ H₀ σ st τ ts H g fl st' g' E n R h q => by
  simp only [mNext, Option.some.injEq, Prod.mk.injEq] at h; obtain ⟨rfl, rfl, rfl⟩ := h
  exact q _ _ R⟩
theorem ev_seq {K : PySem.W.Frag} {W : Wd G} {t u : TS} (ha : EvS K W t a) (hb : EvS K W u b) : EvS K W (tSeq t u) (mSeq a b) := by
  intro P₀ H₀ σ st τ ts H g fl st' g' E n R h q
  obtain ⟨f1, st1, g1, e1, h⟩ := bnd_eq h
  refine ha _ _ _ _ _ _ _ _ _ _ _ _ n R e1 ?_
  cases f1 with
  | nx => exact fun σ' H' R' => hb _ _ _ _ _ _ _ _ _ _ _ _ n R' h q
  | rt d => simp only [Option.some.injEq, Prod.mk.injEq] at h; obtain ⟨rfl, rfl, rfl⟩ := h; exact q
  | bk => simp only [Option.some.injEq, Prod.mk.injEq] at h; obtain ⟨rfl, rfl, rfl⟩ := h; exact q
  | ct => simp only [Option.some.injEq, Prod.mk.injEq] at h; obtain ⟨rfl, rfl, rfl⟩ := h; exact q
theorem s_cons (h1 : DS C Fam s1 a) (h2 : DSs C Fam rest b) : DSs C Fam (s1 :: rest) (mSeq a b) := by
  obtain ⟨ta, pa, ea⟩ := h1.ex
  obtain ⟨tb, pb, eb⟩ := h2.ex
  exact ⟨_, fun j => pss_cons (pa j) (pb j), fun W hW => ev_seq (ea W hW) (eb W hW)⟩
theorem s_one (h1 : DS C Fam s1 a) : DSs C Fam [s1] a := by
  obtain ⟨ta, pa, ea⟩ := h1.ex
  exact ⟨_, fun j => pss_one (pa j), ea⟩
theorem d_ret {f : M G S} (he : DE C Fam e f) : DS C Fam (.Return (some e) pos) (mRet f) := by
  obtain ⟨ta, pa, ea⟩ := he.ex
  refine ⟨_, fun j => ps_ret (pa j), fun W hW P₀ H₀ σ st τ ts H g fl st' g' E n R h q => ?_⟩
  obtain ⟨d, st1, g1, e1, h⟩ := bnd_eq h
  simp only [Option.some.injEq, Prod.mk.injEq] at h; obtain ⟨rfl, rfl, rfl⟩ := h
  obtain ⟨x, st0, e3, e4⟩ := mTake_eq e1
  refine ea W hW _ _ _ _ _ _ _ _ _ _ _ _ R e3 fun v H1 R1 => ?_
  obtain ⟨P, O, R1⟩ := R1
  obtain ⟨P', O', R1⟩ := R1.takeV e4
  exact q σ v H1 ⟨P', O', R1⟩
theorem d_expr {f : M G S} (he : DE C Fam e f) (hs : ∀ j, swapsWith e none pos.line (C.X j).env = pure false := by intro _; rfl) : DS C Fam (.Expr e pos) (mDrop f) := by
  obtain ⟨ta, pa, ea⟩ := he.ex
  refine ⟨_, fun j => ps_expr (pa j) (hs j), fun W hW P₀ H₀ σ st τ ts H g fl st' g' E n R h q => ?_⟩
  obtain ⟨d, st1, g1, e1, h⟩ := bnd_eq h
  simp only [Option.some.injEq, Prod.mk.injEq] at h; obtain ⟨rfl, rfl, rfl⟩ := h
  exact ea W hW _ _ _ _ _ _ _ _ _ _ _ _ R e1 fun v H1 R1 => q σ H1 R1.pop
theorem d_if {c : Expr} {x : M G Bool} {s2 s3 : List Stmt} (hc : DT C Fam c x) (ha : DSs C Fam s2 a) (hb : DSs C Fam s3 b) : DS C Fam (.If c s2 s3 pos) (mIf x a b) := by
  obtain ⟨tc, pc, ec⟩ := hc.ex
  obtain ⟨ta, pa, ea⟩ := ha.ex
  obtain ⟨tb, pb, eb⟩ := hb.ex
  refine ⟨_, fun j => ps_if (pc j) (pa j) (pb j), fun W hW P₀ H₀ σ st τ ts H g fl st' g' E n R h q => ?_⟩
  obtain ⟨c, st1, g1, e1, h⟩ := bnd_eq h
  refine ec W hW _ _ _ _ _ _ _ _ _ _ _ _ R e1 fun H1 R1 => ?_
  cases c with
  | true => rw [if_pos rfl] at h ⊢; exact ea W hW _ _ _ _ _ _ _ _ _ _ _ _ n R1 h q
  | false => rw [if_neg (by simp)] at h ⊢; exact eb W hW _ _ _ _ _ _ _ _ _ _ _ _ n R1 h q
theorem ev_set {K : PySem.W.Frag} {W : Wd G} {te : TE} {f : M G S} {i : Nat} (ea : EvE K W te f) : EvS K W (tAsg te (gName i)) (mSet i f) := by
  intro P₀ H₀ σ st τ ts H g fl st' g' E n R h q
  obtain ⟨x, st1, g1, e1, h⟩ := bnd_eq h
  refine ea _ _ _ _ _ _ _ _ _ _ _ _ R e1 fun v H1 R1 => ?_
  obtain ⟨P, O, R1⟩ := R1
  split at h
  · rename_i hi
    rw [R1.len] at hi
    cases x with
    | sh d =>
      simp only [Option.some.injEq, Prod.mk.injEq] at h; obtain ⟨rfl, rfl, rfl⟩ := h
      obtain ⟨O', R2⟩ := R1.store (fun j z => nomatch z) (fun z => nomatch z) n hi
      exact q _ _ ⟨P, O', R2⟩
    | ow d =>
      simp only [Option.some.injEq, Prod.mk.injEq] at h; obtain ⟨rfl, rfl, rfl⟩ := h
      obtain ⟨O', R2⟩ := R1.store (fun j z => nomatch z) (fun z => nomatch z) n hi
      exact q _ _ ⟨P, O', R2⟩
    | any => cases h
    | «at» j =>
      obtain ⟨⟨d, st2⟩, e2, h⟩ := Option.map_eq_some_iff.mp h
      simp only [Prod.mk.injEq] at h; obtain ⟨rfl, rfl, rfl⟩ := h
      obtain ⟨P', O', R1⟩ := R1.takeV e2
      obtain ⟨O', R2⟩ := R1.store (fun j z => nomatch z) (fun z => nomatch z) n hi
      exact q _ _ ⟨P', O', R2⟩
  · cases h
theorem d_set (i : Nat) {x : Str} {f : M G S} {pos' : Pos} (he : DE C Fam e f) (hi : C.N[i]? = some x := by rfl) (hx : ∀ j, Loc (C.X j).env.scope x := by intro _; first | exact Or.inl rfl | exact Or.inr rfl) (hs : ∀ j, swapsWith e (some (.Name x pos')) pos.line (C.X j).env = pure false := by intro _; rfl)
    (hf : ∀ j, (C.X j).fn x = true ∨ (C.X j).env.scope.names.lookup x = some .local := by intro _; first | exact .inl rfl | exact .inr rfl) : DS C Fam (.Assign [.Name x pos'] e pos) (mSet i f) := by
  obtain ⟨ta, pa, ea⟩ := he.ex
  exact ⟨_, fun j => ps_set (C.nd' j) (by rw [C.hN j]; exact hi) (hx j) (pa j) (hs j) (hf j), fun W hW => ev_set (ea W hW)⟩
end
/-! ### targets -/
inductive Pt where
  | nm (i : Nat) | tp (ps : List Pt)
mutual
def Pt.ix : Pt → List Nat
  | .nm i => [i]
  | .tp ps => Pt.ixs ps
def Pt.ixs : List Pt → List Nat
  | [] => []
  | p :: ps => p.ix ++ Pt.ixs ps
end
def Pt.isTp : Pt → Bool
  | .nm _ => false
  | .tp _ => true
mutual
def asg : Pt → D → Sl → Option Sl
  | .nm i, d, st => if i < st.length then some (st.set i (some (.sh d))) else none
  | .tp ps, d, st => match d with
    | .tup ds => asgs ps ds st
    | _ => none
def asgs : List Pt → List D → Sl → Option Sl
  | [], [], st => some st
  | p :: ps, d :: ds, st => (asg p d st).bind fun st => asgs ps ds st
  | _, _, _ => none
end
def EvG (K : PySem.W.Frag) (W : Wd G) (t : TG) (p : Pt) : Prop :=
  ∀ (P₀ H₀ P : Hp) (O : Addr → Option Tag) (σ : L2.St) (st : Sl) (τ : List V) (ts : List S) (H : Hp) (g : G) (d : D) (v : V) (st' : Sl) (Q : L2.St → Hp → Prop) (A : Bool),
    (A = true → p.isTp = true) → NoAt ts → RelB K W P₀ H₀ P O σ st τ ts H g → RepF K W P A d v → asg p d st = some st' →
    (∀ σ', (∀ vs, (∀ i ∈ p.ix, i ∈ vs) → wipe σ' vs = wipe σ vs) → RelB K W P₀ H₀ P O σ' st' τ ts H g → Q σ' H) → t v σ H Q
def EvGs (K : PySem.W.Frag) (W : Wd G) (t : TGs) (ps : List Pt) : Prop :=
  ∀ (P₀ H₀ P : Hp) (O : Addr → Option Tag) (σ : L2.St) (st : Sl) (τ : List V) (ts : List S) (H : Hp) (g : G) (ds : List D) (vs : List V) (st' : Sl) (Q : L2.St → Hp → Prop),
    NoAt ts → RelB K W P₀ H₀ P O σ st τ ts H g → Reps K W P ds vs → asgs ps ds st = some st' →
    (∀ σ', (∀ vs, (∀ i ∈ Pt.ixs ps, i ∈ vs) → wipe σ' vs = wipe σ vs) → RelB K W P₀ H₀ P O σ' st' τ ts H g → Q σ' H) → t vs σ H Q
theorem wipe_set (σ : L2.St) (i : Nat) (x : Option V) : ∀ (vs : List Nat), i ∈ vs → wipe (σ.set i x) vs = wipe σ vs
  | [], h => by cases h
  | v :: vs, h => by
    by_cases e : v = i
    · subst e
      have : ∀ (us : List Nat) (σ : L2.St), (wipe (σ.set v x) us).set v none = (wipe σ us).set v none := by
        intro us
        induction us with
        | nil => intro σ; simp [wipe]
        | cons u us ih =>
          intro σ
          simp only [wipe]
          by_cases e : u = v
          · subst e; simp; exact ih σ
          · rw [List.set_comm _ _ e, ih, List.set_comm _ _ (Ne.symm e)]
      exact this vs σ
    · simp only [wipe]
      rw [wipe_set σ i x vs ((List.mem_cons.mp h).resolve_left (fun q => e q.symm))]
theorem RelB.setSh {K : PySem.W.Frag} {W : Wd G} {P₀ H₀ P H : Hp} {O : Addr → Option Tag} {σ : L2.St} {st : Sl} {τ : List V} {ts : List S} {g : G} {v : V} {d : D} {i : Nat} (R : RelB K W P₀ H₀ P O σ st τ ts H g) (n : NoAt ts) (h : Rep K W P d v) (hi : i < σ.length) :
    RelB K W P₀ H₀ P O (σ.set i (some v)) (st.set i (some (.sh d))) τ ts H g := by
  have hl : i < st.length := by rw [R.len]; exact hi
  refine { R with len := by simp [R.len], slots := fun j s z => ?_, temps := R.temps.noAt n }
  by_cases hj : j = i
  · subst hj
    rw [List.getElem?_set_self hl] at z; cases z
    exact ⟨v, List.getElem?_set_self hi, (fun _ q => nomatch q), h⟩
  · rw [List.getElem?_set_ne (Ne.symm hj)] at z
    obtain ⟨v', e1, e2, q⟩ := R.slots j s z
    refine ⟨v', by rw [List.getElem?_set_ne (Ne.symm hj)]; exact e1, e2, ?_⟩
    cases s with
    | sh _ => exact q
    | ow _ => exact q
    | any => exact q
    | «at» k => exact absurd rfl (e2 k)
structure DG (C : CF) (tg : Expr) (p : Pt) : Prop where
  ex : ∃ t, (∀ j, PG (C.X j) tg t) ∧ ∀ (G : Type) (W : Wd G), EvG C.K W t p
structure DGs (C : CF) (tg : List Expr) (ps : List Pt) : Prop where
  ex : ∃ t, (∀ j, PGs (C.X j) tg t) ∧ ∀ (G : Type) (W : Wd G), EvGs C.K W t ps
section
variable {C : CF} {pos : Pos}
theorem g_name (i : Nat) {x : Str} (hi : C.N[i]? = some x := by rfl) (hx : ∀ j, Loc (C.X j).env.scope x := by intro _; first | exact Or.inl rfl | exact Or.inr rfl) (hf : ∀ j, (C.X j).fn x = true ∨ (C.X j).env.scope.names.lookup x = some .local := by intro _; first | exact .inl rfl | exact .inr rfl) : DG C (.Name x pos) (.nm i) :=
  ⟨_, fun j => pg_name (C.nd' j) (by rw [C.hN j]; exact hi) (hx j) (hf j), fun G W P₀ H₀ P O σ st τ ts H g d v st' Q A hA n R r h q => by
    have hA2 : A = false := by
      cases A with
      | false => rfl
      | true => exact absurd (hA rfl) (by simp [Pt.isTp])
    subst hA2
    simp only [asg] at h
    split at h
    · rename_i hl
      cases h
      exact q _ (fun vs hv => wipe_set σ i _ vs (hv i (by simp [Pt.ix]))) (R.setSh n (by simpa [RepF] using r) (by rw [← R.len]; exact hl))
    · cases h⟩
theorem gs_nil : DGs C [] [] := ⟨_, fun _ => pgs_nil, fun G W P₀ H₀ P O σ st τ ts H g ds vs st' Q n R r h q => by
  cases ds with
  | nil =>
    simp only [Reps] at r; subst r
    simp only [asgs, Option.some.injEq] at h; subst h
    exact ⟨rfl, q σ (fun _ _ => rfl) R⟩
  | cons d ds => simp [asgs] at h⟩
theorem gs_cons {e : Expr} {es : List Expr} {p : Pt} {ps : List Pt} (h1 : DG C e p) (h2 : DGs C es ps) (hs : ∀ j, (assignEach (e :: es) (C.X j).env).map (·.2) = assign e (C.X j).env :: (assignEach es (C.X j).env).map (·.2) := by intro _; rfl) : DGs C (e :: es) (p :: ps) := by
  obtain ⟨ta, pa, ea⟩ := h1.ex
  obtain ⟨tb, pb, eb⟩ := h2.ex
  refine ⟨_, fun j => pgs_cons (pa j) (pb j) (hs j), fun G W P₀ H₀ P O σ st τ ts H g ds vs st' Q n R r h q => ?_⟩
  cases ds with
  | nil => simp [asgs] at h
  | cons d ds =>
    simp only [Reps] at r
    obtain ⟨v, r', rfl, r1, r2⟩ := r
    simp only [asgs] at h
    obtain ⟨st1, e1, h⟩ := Option.bind_eq_some_iff.mp h
    refine ⟨v, r', rfl, ea G W _ _ _ _ _ _ _ _ _ _ _ _ _ _ false (fun z => nomatch z) n R (by simpa [RepF] using r1) e1 fun σ' w1 R1 => ?_⟩
    refine eb G W _ _ _ _ _ _ _ _ _ _ _ _ _ _ n R1 r2 h fun σ2 w2 R2 => q σ2 (fun vs hv => ?_) R2
    rw [w2 vs fun i hi => hv i (by simp [Pt.ixs, hi]), w1 vs fun i hi => hv i (by simp [Pt.ixs, hi])]
theorem g_tup {es : List Expr} {k : Nat} {ps : List Pt} (h : DGs C es ps) (hp : ps.length = es.length := by rfl)
    (hn : ∀ j, (assignEach es (C.X j).env).length = es.length := by intro _; rfl) (hst : ∀ j, (assignEach es (C.X j).env).findIdx? (·.1) = none := by intro _; rfl) : DG C (.Tuple es k pos) (.tp ps) := by
  obtain ⟨ta, pa, ea⟩ := h.ex
  refine ⟨gTup C.K es.length ta, fun j => by rw [← C.hK j]; exact pg_tup (C.calm j) (pa j) (hn j) (hst j), fun G W P₀ H₀ P O σ st τ ts H g d v st' Q A hA n R r h q => ?_⟩
  cases d with
  | tup ds =>
    have r' : RepA C.K W P (.tup ds) v := by
      cases A with
      | true => simpa [RepF] using r
      | false =>
        have r2 : Rep C.K W P (.tup ds) v := by simpa [RepF] using r
        simp only [Rep] at r2
        obtain ⟨a, xs, rfl, sq, _, rs⟩ := r2
        exact ⟨a, xs, rfl, sq.sq, rs⟩
    obtain ⟨a, xs, rfl, sq, rs⟩ := r'
    simp only [asg] at h
    refine ⟨a, xs, rfl, R.sub.sqT sq, ?_, ea G W _ _ _ _ _ _ _ _ _ _ _ _ _ _ n R rs h q⟩
    rw [rs.length, ← hp]
    clear hp hn hst ea pa rs sq R q r
    have : ∀ (ps : List Pt) (ds : List D) (st : Sl), asgs ps ds st = some st' → ds.length = ps.length := by
      intro ps
      induction ps with
      | nil => intro ds st h; cases ds with
        | nil => rfl
        | cons d ds => simp [asgs] at h
      | cons p ps ih => intro ds st h; cases ds with
        | nil => simp [asgs] at h
        | cons d ds =>
          simp only [asgs] at h
          obtain ⟨st1, e1, h⟩ := Option.bind_eq_some_iff.mp h
          simp [ih _ _ h]
    exact this ps ds st h
  | _ => simp [asg] at h
end
/-- a, b = e -/
def mUnp (p : Pt) (f : M G S) : M G Fl := fun st g => bnd (mTake f st g) fun d st g => (asg p d st).map fun st => (.nx, st, g)
section
variable {C : CF} {Fam : Wd G → Prop} {e tg : Expr} {pos : Pos}
theorem d_unp {f : M G S} {p : Pt} (he : DE C Fam e f) (hg : DG C tg p) (hs : ∀ j, swapsWithSole [tg] e pos.line (C.X j).env = pure false := by intro _; rfl) (hw : ∀ j, swappedStores [tg] e (C.X j).env = pure none := by intro _; rfl)
    (h1 : ∀ j, (assignEach [tg] (C.X j).env).map (·.2) = [assign tg (C.X j).env] := by intro _; rfl) : DS C Fam (.Assign [tg] e pos) (mUnp p f) := by
  obtain ⟨ta, pa, ea⟩ := he.ex
  obtain ⟨tb, pb, eb⟩ := hg.ex
  refine ⟨_, fun j => ps_asg (pa j) (pb j) (hs j) (hw j) (h1 j), fun W hW P₀ H₀ σ st τ ts H g fl st' g' E n R h q => ?_⟩
  obtain ⟨d, st1, g1, e1, h⟩ := bnd_eq h
  obtain ⟨st2, e2, h⟩ := Option.map_eq_some_iff.mp h
  simp only [Prod.mk.injEq] at h; obtain ⟨rfl, rfl, rfl⟩ := h
  obtain ⟨x, st0, e3, e4⟩ := mTake_eq e1
  refine ea W hW _ _ _ _ _ _ _ _ _ _ _ _ R e3 fun v H1 R1 => ?_
  obtain ⟨P, O, R1⟩ := R1
  obtain ⟨P', O', R1⟩ := R1.takeV e4
  exact eb G W _ _ _ _ _ _ _ _ _ _ _ _ _ _ false (fun z => nomatch z) n R1.pop (by simp only [RepF]; exact R1.temps.1) e2 fun σ' _ R2 => q _ _ ⟨P', O', R2⟩
end
/-! ### the def -/
def mFn (n m : Nat) (b : M G Fl) : Fn G := fun ds g => if ds.length = n then
    (match b (ds.map (fun d => some (.sh d)) ++ List.replicate (m - n) none) g with
    | some (.rt d, _, g) => some (d, g)
    | some (.nx, _, g) => some (.non, g)
    | _ => none)
  else none
theorem Reps.slots {K : PySem.W.Frag} {W : Wd G} {P : Hp} : ∀ {ds : List D} {vs : List V}, Reps K W P ds vs → ∀ (m i : Nat) s, (ds.map (fun d => some (S.sh d)) ++ List.replicate m none)[i]? = some (some s) →
    ∃ v, (vs.map some ++ List.replicate m none)[i]? = some (some v) ∧ ∃ d, s = .sh d ∧ Rep K W P d v
  | [], vs, r, m, i, s, e => by
    simp only [List.map_nil, List.nil_append] at e
    have := List.mem_of_getElem? e
    rw [List.mem_replicate] at this
    cases this.2
  | d :: ds, vs, r, m, 0, s, e => by
    simp only [Reps] at r
    obtain ⟨v, r', rfl, r1, r2⟩ := r
    simp only [List.map_cons, List.cons_append, List.getElem?_cons_zero, Option.some.injEq] at e
    exact ⟨v, rfl, d, e.symm, r1⟩
  | d :: ds, vs, r, m, i + 1, s, e => by
    simp only [Reps] at r
    obtain ⟨v, r', rfl, r1, r2⟩ := r
    simp only [List.map_cons, List.cons_append, List.getElem?_cons_succ] at e ⊢
    exact Reps.slots r2 m i s e
structure FI (k : Nat) (qual : Str) (stm : Stmt) (f : Addr) where
  cdv : Value
  A : Around
  outer : List Env
  s : Shared
  H : Hp
  E : XK
  hr : Room k (A.deeper (PyProof.Rows.envOfC qual (defScope stm) s.heap.objs.size f cdv))
  hgd : A.guards = some []
/-- the contexts of a def's body -/
def fcx (P : Program) (w : World) (K : PySem.W.Frag) (mg : Str → Option Value) (base : Heap) (N : List Str) (k : Nat) (qual : Str) (stm : Stmt) (f : Addr) (nd : N.Nodup) : CF where
  ι := FI k qual stm f
  X := fun j => (cxOf CX0 P w K mg base N qual (defScope stm) f j.cdv j.A j.outer j.s j.H j.E).nox
  prog := P
  w := w
  K := K
  mg := mg
  base := base
  N := N
  room := k
  hP := fun _ => rfl
  hw := fun _ => rfl
  hK := fun _ => rfl
  hmg := fun _ => rfl
  hbase := fun _ => rfl
  hN := fun _ => rfl
  nd := nd
  calm := fun _ => rfl
  hr := fun j => j.hr
  hgd := fun j => j.hgd
  xe := fun _ => rfl
theorem fnG_to {P : Program} {w : World} {K : PySem.W.Frag} {mg : Str → Option Value} {base : Heap} {Fam : Wd G → Prop} {k : Nat} {x qual : Str} {stm : Stmt} {f : Addr} {fd : FuncData} {N ps : List Str} {b : M G Fl} {n : Nat}
    (F : Fun K x qual stm f fd) (Sc : FnScope N ps (defScope stm)) (hn : ps.length = n)
    (hbody : DSs (fcx P w K mg base N k qual stm f Sc.nd) Fam (defBody stm) b) : DZ.FnG P w K mg base CX0 (k + 1) f fd ps (spF K Fam n (mFn n N.length b)) := by
  refine DZ.fnG_of F Sc (fun vs H Q E h => ?_) (fun cdv A outer s H vs Q E hr hgd h => ?_)
  · obtain ⟨W, P, ds, g, d, g', h1, h2, _⟩ := h; rw [h2, hn]
  · obtain ⟨W, Ph, ds, g, d, g', hW, h2, ⟨hsub, hnf, hw⟩, rp, hF, q⟩ := h
    obtain ⟨t, pt, et⟩ := hbody.ex
    have et := et W hW
    refine ⟨t, (pt ⟨cdv, A, outer, s, H, E, hr, hgd⟩).nox, ?_⟩
    unfold mFn at hF
    have hl : ds.length = n := by rw [← rp.length]; exact h2
    have hl2 : vs.length = n := h2
    rw [if_pos hl] at hF
    have R : RelB K W Ph H Ph (fun _ => none) (L2.start N vs) (ds.map (fun d => some (.sh d)) ++ List.replicate (N.length - n) none) [] [] H g := by
      refine ⟨hsub, fun _ _ e _ => e, Sub.refl _, fun a e => .inl e, hnf, (fun a t e => nomatch e), hw, ?_, fun i s e => ?_, trivial⟩
      · simp [L2.start, hl, hl2]
      · obtain ⟨v, e1, d', rfl, r⟩ := rp.slots _ i s e
        exact ⟨v, by simpa [L2.start, hl2] using e1, (fun _ q => nomatch q), r⟩
    have fin : ∀ {P' H' : Hp} {O' : Addr → Option Tag} {σ' : L2.St} {st' : Sl} {τ ts}, RelB K W Ph H P' O' σ' st' τ ts H' g' → Out W Ph H P' H' g' := fun R' =>
      ⟨R'.p0, R'.sub, R'.nfp, R'.new, R'.base, R'.wld⟩
    cases e : b (ds.map (fun d => some (.sh d)) ++ List.replicate (N.length - n) none) g with
    | none => rw [e] at hF; cases hF
    | some r =>
      obtain ⟨fl, st', g2⟩ := r
      rw [e] at hF
      cases fl with
      | rt d' =>
        simp only [Option.some.injEq, Prod.mk.injEq] at hF; obtain ⟨rfl, rfl⟩ := hF
        refine et _ _ _ _ _ _ _ _ _ _ _ _ (fun i z => by cases z) ⟨_, _, R⟩ e fun σ' v H' R' => ?_
        obtain ⟨P', O', R'⟩ := R'
        exact q v H' P' (fin R') R'.temps.1
      | nx =>
        simp only [Option.some.injEq, Prod.mk.injEq] at hF; obtain ⟨rfl, rfl⟩ := hF
        refine et _ _ _ _ _ _ _ _ _ _ _ _ (fun i z => by cases z) ⟨_, _, R⟩ e fun σ' H' R' => ?_
        obtain ⟨P', O', R'⟩ := R'
        exact q .non H' P' (fin R') (by simp [Rep])
      | bk => cases hF
      | ct => cases hF
end DL
namespace DL
open PySem PySem.Spec L2
variable {G : Type}
/-! ### what is walked -/
def Yields (K : PySem.W.Frag) (W : Wd G) (A : Bool) (J : It) (items : List D) (cv : List V) (cells : List S) : Prop :=
  items.length ≤ sizeLine ∧ cv.length = cells.length ∧ NoAt cells ∧
  ∀ (P₀ H₀ : Hp) (σ : L2.St) (st : Sl) (ρ : List V) (rs : List S) (τ : List V) (ts : List S) (H : Hp) (g : G), ρ.length = rs.length → Rel K W P₀ H₀ σ st (ρ ++ (cv ++ τ)) (rs ++ (cells ++ ts)) H g →
    (∀ (i : Nat) d, items[i]? = some d → J.go i H ∧ ∀ x H', J.yld i H x H' → ∃ P O, RelB K W P₀ H₀ P O σ st (ρ ++ (cv ++ τ)) (rs ++ (cells ++ ts)) H' g ∧ RepF K W P A d x) ∧
    (∀ i, items.length ≤ i → J.stop i H)
def EvI (K : PySem.W.Frag) (W : Wd G) (A : Bool) (wi : TI) (f : M G (List D × List S)) : Prop :=
  ∀ (P₀ H₀ : Hp) (σ : L2.St) (st : Sl) (τ : List V) (ts : List S) (H : Hp) (g : G) (items : List D) (cells : List S) (st' : Sl) (g' : G) (R : It → Hp → Prop),
    Rel K W P₀ H₀ σ st τ ts H g → f st g = some ((items, cells), st', g') →
    (∀ J cv H', Rel K W P₀ H₀ σ st' (cv ++ τ) (cells ++ ts) H' g' → Yields K W A J items cv cells → R J H') → wi σ H R
structure DI (C : CF) (Fam : Wd G → Prop) (A : Bool) (tg iter : Expr) (f : M G (List D × List S)) : Prop where
  ex : ∃ wi, (∀ j, PI (C.X j) tg iter wi) ∧ ∀ W, Fam W → EvI C.K W A wi f
def forM (p : Pt) (body : M G Fl) : List D → M G Fl
  | [], st, g => some (.nx, st, g)
  | d :: ds, st, g => (asg p d st).bind fun st => bnd (body st g) fun fl st g => match fl with
    | .nx => forM p body ds st g
    | .ct => forM p body ds st g
    | .bk => some (.nx, st, g)
    | .rt d => some (.rt d, st, g)
def mFor (src : M G (List D × List S)) (p : Pt) (body : M G Fl) : M G Fl := fun st g => bnd (src st g) fun x st g => forM p body x.1 st g
theorem drop_at {α : Type} {l : List α} {i : Nat} {d : α} (h : l[i]? = some d) : l.drop i = d :: l.drop (i + 1) := by
  obtain ⟨hl, e⟩ := List.getElem?_eq_some_iff.mp h
  rw [List.drop_eq_getElem_cons hl, e]
theorem ev_for {K : PySem.W.Frag} {W : Wd G} {wi : TI} {tg : TG} {tb : TS} {src : M G (List D × List S)} {p : Pt} {body : M G Fl} {A : Bool} (hA : A = true → p.isTp = true) (hi : EvI K W A wi src) (hg : EvG K W tg p) (hb : EvS K W tb body) : EvS K W (tFor wi tg tb) (mFor src p body) := by
  intro P₀ H₀ σ st τ ts H g fl st' g' E n R h q
  obtain ⟨⟨items, cells⟩, st1, g1, e1, h⟩ := bnd_eq h
  refine hi _ _ _ _ _ _ _ _ _ _ _ _ _ R e1 fun J cv H1 R1 Y => ?_
  obtain ⟨hz, hcl, hna, hY⟩ := Y
  refine ⟨fun i m σ H => i + m = items.length ∧ ∃ st g, Rel K W P₀ H₀ σ st (cv ++ τ) (cells ++ ts) H g ∧ forM p body (items.drop i) st g = some (fl, st', g'),
    ⟨items.length, by omega, st1, g1, R1, by simpa using h⟩, fun i m σ H hW => ?_⟩
  obtain ⟨em, st2, g2, R2, h2⟩ := hW
  have n2 : NoAt (cells ++ ts) := hna.app n
  obtain ⟨hgo, hstop⟩ := hY P₀ H₀ σ st2 [] [] τ ts H g2 rfl R2
  simp only [List.nil_append] at hgo
  by_cases hlt : i < items.length
  · right
    have ei : items[i]? = some items[i] := List.getElem?_eq_getElem hlt
    obtain ⟨h3, h4⟩ := hgo i _ ei
    rw [drop_at ei] at h2
    simp only [forM] at h2
    obtain ⟨st3, e3, h2⟩ := Option.bind_eq_some_iff.mp h2
    obtain ⟨f4, st4, g4, e4, h2⟩ := bnd_eq h2
    refine ⟨h3, fun σ' H' => i + 1 + (m - 1) = items.length ∧ ∃ st g, Rel K W P₀ H₀ σ' st (cv ++ τ) (cells ++ ts) H' g ∧ forM p body (items.drop (i + 1)) st g = some (fl, st', g'), fun σ' H' hN => ⟨m - 1, by omega, hN⟩, fun x H' hy => ?_⟩
    obtain ⟨P, O, R3, r3⟩ := h4 x H' hy
    refine hg _ _ _ _ _ _ _ _ _ _ _ _ _ _ A hA n2 R3 r3 e3 fun σ2 _ R4 => ?_
    refine hb _ _ _ _ _ _ _ _ _ _ _ _ n2 ⟨P, O, R4⟩ e4 ?_
    cases f4 with
    | nx => exact fun σ' H' R' => ⟨by omega, _, _, R', h2⟩
    | ct => exact fun σ' H' R' => ⟨by omega, _, _, R', h2⟩
    | bk =>
      simp only [Option.some.injEq, Prod.mk.injEq] at h2; obtain ⟨rfl, rfl, rfl⟩ := h2
      exact fun σ' H' R' => q σ' H' (R'.drop hcl)
    | rt d =>
      simp only [Option.some.injEq, Prod.mk.injEq] at h2; obtain ⟨rfl, rfl, rfl⟩ := h2
      exact fun σ' v H' R' => q σ' v H' (R'.keepTop hcl)
  · left
    have hle : items.length ≤ i := Nat.le_of_not_lt hlt
    rw [List.drop_eq_nil_of_le hle] at h2
    simp only [forM, Option.some.injEq, Prod.mk.injEq] at h2; obtain ⟨rfl, rfl, rfl⟩ := h2
    exact ⟨hstop i hle, q _ _ (R2.drop hcl)⟩
section
variable {C : CF} {Fam : Wd G → Prop} {tg iter : Expr} {pos : Pos} {body : List Stmt}
theorem d_for {src : M G (List D × List S)} {p : Pt} {b : M G Fl} {A : Bool} (hi : DI C Fam A tg iter src) (hg : DG C tg p) (hb : DSs C Fam body b) (hA : A = true → p.isTp = true := by first | (intro h; cases h; done) | (intro _; rfl)) (hs : ∀ j x, foldedSetIterable iter (C.X j).env x = pure x := by intro _ _; rfl) :
    DS C Fam (.For tg iter body [] pos) (mFor src p b) := by
  obtain ⟨ti, pi, ei⟩ := hi.ex
  obtain ⟨ta, pa, ea⟩ := hg.ex
  obtain ⟨tb, pb, eb⟩ := hb.ex
  exact ⟨_, fun j => ps_for (by rw [C.xe j]; exact PassesOwn.never) (C.calm j) (pi j) (pa j) (pb j) (hs j), fun W hW => ev_for hA (ei W hW) (ea G W) (eb W hW)⟩
end
/-! ### while -/
def whileM (c : M G Bool) (b : M G Fl) : Nat → M G Fl
  | 0, _, _ => none
  | n + 1, st, g => bnd (c st g) fun t st g => if t = true then bnd (b st g) fun fl st g => (match fl with
      | .nx => whileM c b n st g
      | .ct => whileM c b n st g
      | .bk => some (.nx, st, g)
      | .rt d => some (.rt d, st, g))
    else some (.nx, st, g)
theorem whileM_mono {c : M G Bool} {b : M G Fl} : ∀ (n : Nat) (st : Sl) (g : G) r, whileM c b n st g = some r → whileM c b (n + 1) st g = some r
  | 0, _, _, _, h => by cases h
  | n + 1, st, g, r, h => by
    simp only [whileM] at h
    obtain ⟨t, st1, g1, e1, h⟩ := bnd_eq h
    rw [whileM, e1, bnd_some]
    split at h
    · rename_i ht
      rw [if_pos ht]
      obtain ⟨f, st2, g2, e2, h⟩ := bnd_eq h
      rw [e2, bnd_some]
      cases f with
      | nx => exact whileM_mono n _ _ _ h
      | ct => exact whileM_mono n _ _ _ h
      | bk => exact h
      | rt d => exact h
    · rename_i ht
      rw [if_neg ht]; exact h
theorem whileM_le {c : M G Bool} {b : M G Fl} {n m : Nat} (h : n ≤ m) {st : Sl} {g : G} {r} (e : whileM c b n st g = some r) : whileM c b m st g = some r := by
  induction h with
  | refl => exact e
  | step _ ih => exact whileM_mono _ _ _ _ ih
open Classical in
noncomputable def mWhile (c : M G Bool) (b : M G Fl) : M G Fl := fun st g =>
  if h : ∃ n, (whileM c b n st g).isSome = true then whileM c b h.choose st g else none
theorem mWhile_of {c : M G Bool} {b : M G Fl} {n : Nat} {st : Sl} {g : G} {r} (e : whileM c b n st g = some r) : mWhile c b st g = some r := by
  have h : ∃ n, (whileM c b n st g).isSome = true := ⟨n, by rw [e]; rfl⟩
  rw [mWhile, dif_pos h]
  obtain ⟨r', e'⟩ := Option.isSome_iff_exists.mp h.choose_spec
  rw [e']
  rcases Nat.le_total n h.choose with l | l
  · rw [whileM_le l e] at e'; exact e'.symm
  · rw [whileM_le l e'] at e; exact e
theorem mWhile_eq {c : M G Bool} {b : M G Fl} {st : Sl} {g : G} {r} (e : mWhile c b st g = some r) : ∃ n, whileM c b n st g = some r := by
  unfold mWhile at e
  split at e
  · exact ⟨_, e⟩
  · cases e
theorem ev_while {K : PySem.W.Frag} {W : Wd G} {tc : TT} {tb : TS} {c : M G Bool} {b : M G Fl} (hc : EvT K W tc c) (hb : EvS K W tb b) : EvS K W (tWhile tc tb) (mWhile c b) := by
  intro P₀ H₀ σ st τ ts H g fl st' g' E n R h q
  obtain ⟨m, h⟩ := mWhile_eq h
  refine ⟨fun m σ H => ∃ st g, Rel K W P₀ H₀ σ st τ ts H g ∧ whileM c b m st g = some (fl, st', g'), ⟨m, st, g, R, h⟩, fun m σ H hW => ?_⟩
  obtain ⟨st1, g1, R1, h1⟩ := hW
  cases m with
  | zero => cases h1
  | succ m =>
    simp only [whileM] at h1
    obtain ⟨t, st2, g2, e2, h1⟩ := bnd_eq h1
    refine hc _ _ _ _ _ _ _ _ _ _ _ _ R1 e2 fun H2 R2 => ?_
    cases t with
    | false =>
      rw [if_neg (by simp)] at h1 ⊢
      simp only [Option.some.injEq, Prod.mk.injEq] at h1; obtain ⟨rfl, rfl, rfl⟩ := h1
      exact q _ _ R2
    | true =>
      rw [if_pos rfl] at h1 ⊢
      obtain ⟨f4, st4, g4, e4, h2⟩ := bnd_eq h1
      refine ⟨fun σ' H' => ∃ st g, Rel K W P₀ H₀ σ' st τ ts H' g ∧ whileM c b m st g = some (fl, st', g'), fun σ' H' hN => ⟨m, by omega, hN⟩, ?_⟩
      refine hb _ _ _ _ _ _ _ _ _ _ _ _ n R2 e4 ?_
      cases f4 with
      | nx => exact fun σ' H' R' => ⟨_, _, R', h2⟩
      | ct => exact fun σ' H' R' => ⟨_, _, R', h2⟩
      | bk =>
        simp only [Option.some.injEq, Prod.mk.injEq] at h2; obtain ⟨rfl, rfl, rfl⟩ := h2
        exact fun σ' H' R' => q σ' H' R'
      | rt d =>
        simp only [Option.some.injEq, Prod.mk.injEq] at h2; obtain ⟨rfl, rfl, rfl⟩ := h2
        exact fun σ' v H' R' => q σ' v H' R'
section
variable {C : CF} {Fam : Wd G → Prop} {c : Expr} {pos : Pos} {body : List Stmt}
theorem d_while {x : M G Bool} {b : M G Fl} (hc : DT C Fam c x) (hb : DSs C Fam body b) : DS C Fam (.While c body [] pos) (mWhile x b) := by
  obtain ⟨ta, pa, ea⟩ := hc.ex
  obtain ⟨tb, pb, eb⟩ := hb.ex
  exact ⟨_, fun j => ps_while (by rw [C.xe j]; exact PassesOwn.never) (pa j) (pb j), fun W hW => ev_while (ea W hW) (eb W hW)⟩
end
/-! ### list comprehensions -/
def hide : S → S
  | .at _ => .any
  | .sh d => .sh d
  | .ow d => .ow d
  | .any => .any
def wipeS (st : Sl) : List Nat → Sl
  | [] => st
  | v :: vs => (wipeS st vs).set v none
theorem wipeS_length (st : Sl) : ∀ vs : List Nat, (wipeS st vs).length = st.length
  | [] => rfl
  | v :: vs => by simp [wipeS, wipeS_length st vs]
theorem wipeS_some {st : Sl} {i : Nat} {s : S} : ∀ {vs : List Nat}, (wipeS st vs)[i]? = some (some s) → st[i]? = some (some s) ∧ i ∉ vs
  | [], h => ⟨h, by simp⟩
  | v :: vs, h => by
    simp only [wipeS] at h
    by_cases e : v = i
    · subst e
      by_cases hl : v < (wipeS st vs).length
      · rw [List.getElem?_set_self hl] at h; cases h
      · rw [List.getElem?_eq_none (by simpa using Nat.le_of_not_lt hl)] at h; cases h
    · rw [List.getElem?_set_ne e] at h
      obtain ⟨h1, h2⟩ := wipeS_some h
      exact ⟨h1, by simp [h2, Ne.symm e]⟩
theorem hide_noAt (ts : List S) : NoAt (ts.map hide) := fun i h => by
  obtain ⟨s, _, e⟩ := List.mem_map.mp h
  cases s <;> cases e
section
variable {K : PySem.W.Frag} {W : Wd G} {P₀ H₀ P H P' H' : Hp} {O O' : Addr → Option Tag} {σ σ' : L2.St} {st st' : Sl} {τ : List V} {ts : List S} {g : G} {v : V} {s : S} {d : D} {vs : List Nat}
theorem TOk.hide : ∀ {τ : List V} {ts : List S}, TOk K W P O H σ τ ts → TOk K W P O H σ' τ (ts.map DL.hide)
  | [], [], h => h
  | v :: τ, s :: ts, h => by
    refine ⟨?_, TOk.hide h.2⟩
    have h1 := h.1
    cases s with
    | sh e => exact h1
    | ow e => exact h1
    | any => exact h1
    | «at» i => exact trivial
  | [], _ :: _, h => h.elim
  | _ :: _, [], h => h.elim
theorem TOk.unhide : ∀ {τ : List V} {ts : List S}, TOk K W P O H σ τ ts → TOk K W P' O' H' σ' τ (ts.map DL.hide) → TOk K W P' O' H' σ τ ts
  | [], [], _, h => h
  | v :: τ, s :: ts, h0, h => by
    refine ⟨?_, TOk.unhide h0.2 h.2⟩
    have h1 := h.1
    cases s with
    | sh e => exact h1
    | ow e => exact h1
    | any => exact h1
    | «at» i => exact h0.1
  | [], _ :: _, h, _ => h.elim
  | _ :: _, [], h, _ => h.elim
theorem RelB.hide (R : RelB K W P₀ H₀ P O σ st τ ts H g) : RelB K W P₀ H₀ P O σ st τ (ts.map DL.hide) H g := { R with temps := R.temps.hide }
theorem SOk.sigma {t : Tag} (h : SOk K W P O H σ t v s) (n : ∀ j, s ≠ .at j) : SOk K W P O H σ' t v s := by
  cases s with
  | sh e => exact h
  | ow e => exact h
  | any => exact h
  | «at» i => exact absurd rfl (n i)
theorem RelB.wipe (R : RelB K W P₀ H₀ P O σ st τ ts H g) (n : NoAt ts) : RelB K W P₀ H₀ P O (wipe σ vs) (wipeS st vs) τ ts H g := by
  refine { R with len := by rw [wipeS_length, wipe_length]; exact R.len, slots := fun i s e => ?_, temps := R.temps.noAt n }
  obtain ⟨e1, hv⟩ := wipeS_some e
  obtain ⟨v, e2, e3, q⟩ := R.slots i s e1
  exact ⟨v, by rw [wipe_out hv]; exact e2, e3, q.sigma e3⟩
theorem RelB.unwipe (R : RelB K W P₀ H₀ P O (L2.wipe σ vs) (wipeS st vs) τ ts H g) (n : NoAt ts) : RelB K W P₀ H₀ P O σ (wipeS st vs) τ ts H g := by
  refine { R with len := by have := R.len; rw [wipe_length] at this; exact this, slots := fun i s e => ?_, temps := R.temps.noAt n }
  obtain ⟨e1, hv⟩ := wipeS_some e
  obtain ⟨v, e2, e3, q⟩ := R.slots i s e
  exact ⟨v, by rw [wipe_out hv] at e2; exact e2, e3, q.sigma e3⟩
theorem RelB.writeT {a : Addr} {o' : HO} {d' : D} (R : RelB K W P₀ H₀ P O σ st (.ref a :: τ) (.ow d :: ts) H g) (hd : Own K W P a o' d') : RelB K W P₀ H₀ P O σ st (.ref a :: τ) (.ow d' :: ts) (upd H a o') g := by
  obtain ⟨a', o, ev, eO, eH, q⟩ := R.temps.1
  cases ev
  have own := R.own a _ eO
  have ne : ∀ b t, O b = some t → t ≠ .tmp τ.length → b ≠ a := fun b t z ht y => by subst y; rw [eO] at z; exact ht (Option.some.inj z).symm
  refine { R with sub := fun b u z => ?_, base := fun b u z n => ?_, own := fun b t z => ?_, wld := ?_, slots := fun j s z => ?_, temps := ⟨⟨a, o', rfl, eO, upd_same, hd⟩, ?_⟩ }
  · rw [upd_ne (ne_of_none z own.1)]; exact R.sub b u z
  · rw [upd_ne (ne_of_none z own.2.1)]; exact R.base b u z n
  · obtain ⟨h1, h2, h3, h4⟩ := R.own b t z
    refine ⟨h1, h2, h3, ?_⟩
    by_cases hb : b = a
    · subst hb; rw [upd_same]; simp
    · rw [upd_ne hb]; exact h4
  · exact W.loc g H _ R.wld (fun b hb => upd_ne fun y => own.2.2.1 (y ▸ hb)) (keep_ne eH q.cod)
  · obtain ⟨v', e1, e2, q⟩ := R.slots j s z
    exact ⟨v', e1, e2, q.mono (Sub.refl P) (fun _ z => z) fun b u z w' => by
      rw [upd_ne (ne b _ z fun y => nomatch y)]; exact w'⟩
  · exact R.temps.2.mono (Sub.refl P) (fun _ _ _ z => z) fun b u k hk z w' => by
      rw [upd_ne (ne b _ z fun y => by cases y; exact absurd hk (Nat.lt_irrefl _))]; exact w'
end
theorem wipe_wipe (σ : L2.St) (vs : List Nat) : wipe (wipe σ vs) vs = wipe σ vs := by
  have : ∀ (ws us : List Nat) (σ : L2.St), (∀ w ∈ ws, w ∈ us) → wipe (wipe σ ws) us = wipe σ us := by
    intro ws
    induction ws with
    | nil => intro us σ _; rfl
    | cons w ws ih =>
      intro us σ hs
      simp only [wipe]
      rw [wipe_set _ w none us (hs w List.mem_cons_self)]
      exact ih us σ fun x hx => hs x (List.mem_cons_of_mem _ hx)
  exact this vs vs σ fun _ h => h
def compM (p : Pt) (vs : List Nat) (test : M G Bool) (elt : M G S) : List D → List D → M G (List D)
  | [], acc, st, g => some (acc, st, g)
  | d :: ds, acc, st, g => (asg p d (wipeS st vs)).bind fun st => bnd (test st g) fun b st g =>
      if b = true then bnd (mTake elt st g) fun y st g => compM p vs test elt ds (acc ++ [y]) st g else compM p vs test elt ds acc st g
theorem lc_run {K : PySem.W.Frag} {W : Wd G} {J : It} {items : List D} {cv : List V} {cells : List S} {tg : TG} {tt : TT} {te : TE} {p : Pt} {vs : List Nat} {test : M G Bool} {elt : M G S} {A : Bool} (hA : A = true → p.isTp = true)
    (hY : Yields K W A J items cv cells) (hg : EvG K W tg p) (ht : EvT K W tt test) (he : EvE K W te elt) (hv : ∀ i ∈ p.ix, i ∈ vs)
    {P₀ H₀ : Hp} {σ : L2.St} {st : Sl} {τ : List V} {ts : List S} {H1 : Hp} {g : G} {accN : List D} {stN : Sl} {gN : G} {Qd : Hp → Prop} {D0 : Addr} (h0 : H1 D0 = none)
    (R : Rel K W P₀ H₀ σ st (cv ++ τ) (cells ++ ts) H1 g) (h : compM p vs test elt items [] st g = some (accN, stN, gN))
    (q : ∀ H', Rel K W P₀ H₀ σ (wipeS stN vs) (.ref D0 :: (cv ++ τ)) (.ow (.lst accN) :: (cells ++ ts)) H' gN → Qd H') :
    ∃ Wi : Nat → Nat → Hp → Prop, (∃ m, Wi 0 m (upd H1 D0 (.lst []))) ∧ ∀ i m H, Wi i m H →
      (J.stop i H ∧ Qd H) ∨ (J.go i H ∧ ∃ Nx : Hp → Prop, (∀ H', Nx H' → ∃ m', m' < m ∧ Wi (i + 1) m' H') ∧ ∀ x H', J.yld i H x H' → tg x (wipe σ vs) H' fun σ2 H2 => wipe σ2 vs = wipe σ vs ∧ tt σ2 H2 fun b H3 =>
        if b = true then te σ2 H3 fun y H4 => ∃ acc, H4 D0 = some (.lst acc) ∧ acc.length < sizeLine ∧ Nx (upd H4 D0 (.lst (acc ++ [y]))) else Nx H3) := by
  obtain ⟨hz, hcl, hna, hYy⟩ := hY
  have nh : NoAt (cells ++ ts.map DL.hide) := hna.app (hide_noAt ts)
  have nh2 : ∀ d, NoAt (.ow d :: (cells ++ ts.map DL.hide)) := fun d i z => by
    rcases List.mem_cons.mp z with z | z
    · cases z
    · exact nh i z
  have hlen : ∀ {P O σ H}, TOk K W P O H σ (cv ++ τ) (cells ++ ts) → τ.length = ts.length := fun t => by
    have := t.len; rw [List.length_append, List.length_append, hcl] at this; omega
  refine ⟨fun i m H => i + m = items.length ∧ ∃ st g acc, Rel K W P₀ H₀ (wipe σ vs) (wipeS st vs) (.ref D0 :: (cv ++ τ)) (.ow (.lst acc) :: (cells ++ ts.map DL.hide)) H g ∧ acc.length ≤ i ∧ compM p vs test elt (items.drop i) acc st g = some (accN, stN, gN),
    ⟨items.length, by omega, st, g, [], ?_, Nat.le_refl _, by simpa using h⟩, fun i m H hW => ?_⟩
  · obtain ⟨P, O, R⟩ := R
    have R' : RelB K W P₀ H₀ P O σ st (cv ++ τ) (cells ++ ts.map DL.hide) H1 g := by
      have := R.hide
      rw [List.map_append] at this
      have e : cells.map DL.hide = cells := by
        have : ∀ cs : List S, NoAt cs → cs.map DL.hide = cs := by
          intro cs
          induction cs with
          | nil => intro _; rfl
          | cons c cs ih =>
            intro n
            rw [List.map_cons, ih fun i z => n i (List.mem_cons_of_mem _ z)]
            cases c with
            | «at» j => exact absurd List.mem_cons_self (n j)
            | _ => rfl
        exact this cells hna
      rw [e] at this; exact this
    obtain ⟨O', R2⟩ := R'.laidOwn (d := .lst []) h0 ⟨[], rfl, Nat.zero_le _, by simp [Reps]⟩
    exact ⟨P, O', R2.wipe (nh2 _)⟩
  · obtain ⟨em, st2, g2, acc, R2, ha, h2⟩ := hW
    obtain ⟨hgo, hstop⟩ := hYy P₀ H₀ _ _ [.ref D0] [.ow (.lst acc)] τ (ts.map DL.hide) H g2 rfl R2
    by_cases hlt : i < items.length
    · right
      have ei : items[i]? = some items[i] := List.getElem?_eq_getElem hlt
      obtain ⟨h3, h4⟩ := hgo i _ ei
      rw [drop_at ei] at h2
      simp only [compM] at h2
      obtain ⟨st3, e3, h2⟩ := Option.bind_eq_some_iff.mp h2
      obtain ⟨b, st4, g4, e4, h2⟩ := bnd_eq h2
      refine ⟨h3, fun H' => i + 1 + (m - 1) = items.length ∧ ∃ st g acc, Rel K W P₀ H₀ (wipe σ vs) (wipeS st vs) (.ref D0 :: (cv ++ τ)) (.ow (.lst acc) :: (cells ++ ts.map DL.hide)) H' g ∧ acc.length ≤ i + 1 ∧ compM p vs test elt (items.drop (i + 1)) acc st g = some (accN, stN, gN), fun H' hN => ⟨m - 1, by omega, hN⟩, fun x H' hy => ?_⟩
      obtain ⟨P, O, R3, r3⟩ := h4 x H' hy
      refine hg _ _ _ _ _ _ _ _ _ _ _ _ _ _ A hA (nh2 _) R3 r3 e3 fun σ2 w2 R4 => ?_
      have w3 : wipe σ2 vs = wipe σ vs := by
        rw [w2 vs hv]
        exact wipe_wipe σ vs
      refine ⟨w3, ht _ _ _ _ _ _ _ _ _ _ _ _ ⟨P, O, R4⟩ e4 fun H3 R5 => ?_⟩
      cases b with
      | false =>
        rw [if_neg (by simp)] at h2 ⊢
        obtain ⟨P, O, R5⟩ := R5
        have R6 := R5.wipe (vs := vs) (nh2 _)
        rw [w3] at R6
        exact ⟨by omega, st4, g4, acc, ⟨P, O, R6⟩, by omega, h2⟩
      | true =>
        rw [if_pos rfl] at h2 ⊢
        obtain ⟨y, st5, g5, e5, h2⟩ := bnd_eq h2
        obtain ⟨r, st0, e6, e7⟩ := mTake_eq e5
        refine he _ _ _ _ _ _ _ _ _ _ _ _ R5 e6 fun v H4 R6 => ?_
        obtain ⟨P, O, R6⟩ := R6
        obtain ⟨P', O', R6⟩ := R6.takeV e7
        have ry : Rep K W P' y v := R6.temps.1
        have R7 := R6.pop
        obtain ⟨a', o, ev, eO, eH, xs, rfl, hzx, rx⟩ := R7.temps.1
        cases ev
        have hzz : acc.length + 1 ≤ sizeLine := by omega
        refine ⟨xs, eH, by rw [rx.length]; omega, by omega, st5, g5, acc ++ [y], ?_, by simp; omega, h2⟩
        have R8 := (R7.writeT (o' := .lst (xs ++ [v])) (d' := .lst (acc ++ [y])) ⟨_, rfl, by simp; omega, rx.append (Reps.one ry)⟩).wipe (vs := vs) (nh2 _)
        rw [w3] at R8
        exact ⟨P', O', R8⟩
    · left
      have hle : items.length ≤ i := Nat.le_of_not_lt hlt
      rw [List.drop_eq_nil_of_le hle] at h2
      simp only [compM, Option.some.injEq, Prod.mk.injEq] at h2; obtain ⟨rfl, rfl, rfl⟩ := h2
      refine ⟨hstop i hle, q _ ?_⟩
      obtain ⟨P, O, R2⟩ := R2
      obtain ⟨P1, O1, R1⟩ := R
      have R3 := R2.unwipe (nh2 _)
      refine ⟨P, O, { R3 with temps := ⟨R3.temps.1, ?_⟩ }⟩
      have t1 : TOk K W P1 O1 H1 σ (cv ++ τ) (cells ++ ts) := R1.temps
      have t2 : TOk K W P O H σ (cv ++ τ) (cells ++ ts.map DL.hide) := R3.temps.2
      -- the cells have no at
      have : ∀ (cv : List V) (cells : List S), cv.length = cells.length → NoAt cells → TOk K W P1 O1 H1 σ (cv ++ τ) (cells ++ ts) → TOk K W P O H σ (cv ++ τ) (cells ++ ts.map DL.hide) → TOk K W P O H σ (cv ++ τ) (cells ++ ts) := by
        intro cv
        induction cv with
        | nil => intro cells hl n a b; cases cells with
          | nil => exact TOk.unhide a b
          | cons c cs => simp at hl
        | cons c cv ih => intro cells hl n a b; cases cells with
          | nil => simp at hl
          | cons s cs =>
            refine ⟨?_, ih cs (by simpa using hl) (fun i z => n i (List.mem_cons_of_mem _ z)) a.2 b.2⟩
            have b1 := b.1
            have e : (cv ++ τ).length = (cv ++ τ).length := rfl
            exact b1
      exact this cv cells hcl hna t1 t2
def mLc (src : M G (List D × List S)) (p : Pt) (vs : List Nat) (test : M G Bool) (elt : M G S) : M G S := fun st g =>
  bnd (src st g) fun x st g => bnd (compM p vs test elt x.1 [] st g) fun acc st g => some (.ow (.lst acc), wipeS st vs, g)
theorem RelB.under {K : PySem.W.Frag} {W : Wd G} {P₀ H₀ P H : Hp} {O : Addr → Option Tag} {σ : L2.St} {st : Sl} {cv τ : List V} {cells ts : List S} {g : G} {a : Addr} {d : D} (R : RelB K W P₀ H₀ P O σ st (.ref a :: (cv ++ τ)) (.ow d :: (cells ++ ts)) H g) (hl : cv.length = cells.length) :
    ∃ O', RelB K W P₀ H₀ P O' σ st (.ref a :: τ) (.ow d :: ts) H g := by
  obtain ⟨a', o, ev, eO, eH, q⟩ := R.temps.1
  cases ev
  have own := R.own a _ eO
  refine ⟨fun b => if b = a then some (.tmp τ.length) else O b, { R with own := fun b t z => ?_, slots := fun j s z => ?_, temps := ⟨⟨a, o, rfl, if_pos rfl, eH, q⟩, ?_⟩ }⟩
  · by_cases hb : b = a
    · subst hb; exact own
    · rw [if_neg hb] at z; exact R.own b t z
  · obtain ⟨v', e1, e2, q⟩ := R.slots j s z
    refine ⟨v', e1, e2, q.mono (Sub.refl P) (fun b z => (if_neg fun y => ?_).trans z) (fun _ _ _ z => z)⟩
    subst y; rw [eO] at z; cases z
  · refine TOk.mono (Sub.refl P) (fun b k hk z => (if_neg fun y => ?_).trans z) (fun _ _ _ _ _ z => z) (R.temps.2.drop hl)
    subst y; rw [eO] at z; cases z
    rw [List.length_append] at hk; omega
structure DTs (C : CF) (Fam : Wd G → Prop) (ifs : List Expr) (f : M G Bool) : Prop where
  ex : ∃ t, (∀ j, PTs (C.X j) ifs t) ∧ ∀ W, Fam W → EvT C.K W t f
def mYes : M G Bool := fun st g => some (true, st, g)
section
variable {C : CF} {Fam : Wd G → Prop} {tg iter elt : Expr} {ifs : List Expr} {scope : Scope} {pos : Pos} {own : List (Str × Nat)}
theorem t_nil : DTs C Fam [] mYes := ⟨_, fun _ => pts_nil, fun W hW P₀ H₀ σ st τ ts H g z st' g' Q R h q => by
  simp only [mYes, Option.some.injEq, Prod.mk.injEq] at h; obtain ⟨rfl, rfl, rfl⟩ := h
  exact q H R⟩
theorem t_one {c : Expr} {f : M G Bool} (h : DT C Fam c f) : DTs C Fam [c] f := let ⟨t, p, q⟩ := h.ex; ⟨t, fun j => pts_one (p j), q⟩
theorem ev_lc {K : PySem.W.Frag} {W : Wd G} {wi : TI} {tg : TG} {tt : TT} {te : TE} {src : M G (List D × List S)} {p : Pt} {vs : List Nat} {test : M G Bool} {elt : M G S} {A : Bool} (hA : A = true → p.isTp = true)
    (hi : EvI K W A wi src) (hg : EvG K W tg p) (ht : EvT K W tt test) (he : EvE K W te elt) (hv : ∀ i ∈ p.ix, i ∈ vs) : EvE K W (tLc wi tg tt te vs) (mLc src p vs test elt) := by
  intro P₀ H₀ σ st τ ts H g r st' g' Q R h q
  obtain ⟨⟨items, cells⟩, st1, g1, e1, h⟩ := bnd_eq h
  obtain ⟨acc, st2, g2, e2, h⟩ := bnd_eq h
  simp only [Option.some.injEq, Prod.mk.injEq] at h; obtain ⟨rfl, rfl, rfl⟩ := h
  refine hi _ _ _ _ _ _ _ _ _ _ _ _ _ R e1 fun J cv H1 R1 Y => fun D0 h0 => ?_
  refine lc_run hA Y hg ht he hv h0 R1 e2 fun H' R' => ?_
  obtain ⟨P, O, R'⟩ := R'
  obtain ⟨O', R2⟩ := R'.under Y.2.1
  exact q _ _ ⟨P, O', R2⟩
/-- the contexts of a comprehension's block -/
def CF.blk (C : CF) (scope : Scope) : CF where
  ι := C.ι × Shared × Hp × Addr × List (Str × Addr) × List Addr
  X := fun j => (C.X j.1).blk j.2.1 j.2.2.1 scope (PySem.compEnvC scope j.2.2.2.2.1 j.2.2.2.1 (C.X j.1).env) j.2.2.2.2.2
  prog := C.prog
  w := C.w
  K := C.K
  mg := C.mg
  base := C.base
  N := C.N
  room := C.room
  hP := fun j => C.hP j.1
  hw := fun j => C.hw j.1
  hK := fun j => C.hK j.1
  hmg := fun j => C.hmg j.1
  hbase := fun j => C.hbase j.1
  hN := fun j => C.hN j.1
  nd := C.nd
  calm := fun j => C.calm j.1
  hr := fun j => C.hr j.1
  hgd := fun j => C.hgd j.1
  xe := fun _ => rfl
theorem d_lc {src : M G (List D × List S)} {p : Pt} {test : M G Bool} {f : M G S} {A : Bool} (own : List (Str × Nat)) (hi : DI C Fam A tg iter src) (hg : DG (C.blk scope) tg p) (ht : DTs (C.blk scope) Fam ifs test) (he : DE (C.blk scope) Fam elt f)
    (ok : ∀ j, blkC C.N (C.X j).env.scope scope own = true := by intro _; decide +kernel) (hv : ∀ i ∈ p.ix, i ∈ own.map (·.2) := by decide) (hA : A = true → p.isTp = true := by first | (intro h; cases h; done) | (intro _; rfl)) (hs : ∀ j x, foldedSetIterable iter (C.X j).env x = pure x := by intro _ _; rfl) :
    DE C Fam (.ListComp elt [⟨tg, iter, ifs, 0⟩] scope pos) (mLc src p (own.map (·.2)) test f) := by
  obtain ⟨ti, pi, ei⟩ := hi.ex
  obtain ⟨ta, pa, ea⟩ := hg.ex
  obtain ⟨tt, pt, et⟩ := ht.ex
  obtain ⟨te, pe, ee⟩ := he.ex
  exact ⟨_, fun j => pe_lc (own := own) (C.calm j) (C.nd' j) (pi j) (by rw [C.hN j]; exact blkOk_by (ok j)) (fun s H Ca cl fp => pa (j, s, H, Ca, cl, fp)) (fun s H Ca cl fp => pt (j, s, H, Ca, cl, fp)) (fun s H Ca cl fp => pe (j, s, H, Ca, cl, fp)) (hs j),
    fun W hW => ev_lc hA (ei W hW) (ea G W) (et W hW) (ee W hW) hv⟩
/-- y = [.. for ..] on one line -/
theorem d_setLc {src : M G (List D × List S)} {p : Pt} {test : M G Bool} {f : M G S} (i : Nat) {A : Bool} (own : List (Str × Nat)) {y : Str} {py spos : Pos} (hi : DI C Fam A tg iter src) (hg : DG (C.blk scope) tg p) (ht : DTs (C.blk scope) Fam ifs test) (he : DE (C.blk scope) Fam elt f)
    (hy : C.N[i]? = some y := by rfl) (hyl : ∀ j, (C.X j).env.scope.names.lookup y = some .local := by intro _; rfl)
    (hsw : ∀ j, swapsWith (.ListComp elt [⟨tg, iter, ifs, 0⟩] scope pos) (some (.Name y py)) spos.line (C.X j).env = pure true := by intro _; exact sw_true rfl rfl rfl (by decide +kernel))
    (ok : ∀ j, blkC C.N (C.X j).env.scope scope own = true := by intro _; decide +kernel) (hv : ∀ i ∈ p.ix, i ∈ own.map (·.2) := by decide) (hA : A = true → p.isTp = true := by first | (intro h; cases h; done) | (intro _; rfl)) (hs : ∀ j x, foldedSetIterable iter (C.X j).env x = pure x := by intro _ _; rfl) :
    DS C Fam (.Assign [.Name y py] (.ListComp elt [⟨tg, iter, ifs, 0⟩] scope pos) spos) (mSet i (mLc src p (own.map (·.2)) test f)) := by
  obtain ⟨ti, pi, ei⟩ := hi.ex
  obtain ⟨ta, pa, ea⟩ := hg.ex
  obtain ⟨tt, pt, et⟩ := ht.ex
  obtain ⟨te, pe, ee⟩ := he.ex
  exact ⟨_, fun j => ps_setLc (own := own) (C.calm j) (C.nd' j) (by rw [C.hN j]; exact hy) (hyl j) (hsw j) (pi j) (by rw [C.hN j]; exact blkOk_by (ok j)) (fun s H Ca cl fp => pa (j, s, H, Ca, cl, fp)) (fun s H Ca cl fp => pt (j, s, H, Ca, cl, fp)) (fun s H Ca cl fp => pe (j, s, H, Ca, cl, fp)) (hs j),
    fun W hW => ev_set (ev_lc hA (ei W hW) (ea G W) (et W hW) (ee W hW) hv)⟩
end
end DL
namespace DL
open PySem PySem.Spec L2
variable {G : Type}
section
variable {K : PySem.W.Frag} {W : Wd G} {P₀ H₀ P H : Hp} {O : Addr → Option Tag} {σ : L2.St} {st st' : Sl} {τ ρ : List V} {ts rs : List S} {g : G} {v : V} {s : S} {d : D}
/-- a shared cell within the temporaries -/
theorem RelB.cell (R : RelB K W P₀ H₀ P O σ st (ρ ++ (v :: τ)) (rs ++ (.sh d :: ts)) H g) (e : ρ.length = rs.length) : Rep K W P d v := (R.temps.drop e).1
theorem noAt_sh (d : D) : NoAt [S.sh d] := fun i h => by simp at h
theorem yields_lst {a : Addr} {ds : List D} (hz : ds.length ≤ sizeLine) : Yields K W false (Itl K a) ds [.ref a] [.sh (.lst ds)] := by
  refine ⟨hz, rfl, noAt_sh _, fun P₀ H₀ σ st ρ rs τ ts H g hl R => ?_⟩
  obtain ⟨P, O, R⟩ := R
  have c : Rep K W P (.lst ds) (.ref a) := R.cell hl
  simp only [Rep] at c
  obtain ⟨a', xs, e, sq, _, rp⟩ := c
  cases e
  have sq' : SqL K H a xs := SqL.of (R.sub _ _ sq)
  refine ⟨fun i d e => ?_, fun i hi => ⟨xs, sq', by rw [rp.length]; exact hi⟩⟩
  obtain ⟨x, ex, rx⟩ := rp.get e
  refine ⟨⟨xs, x, sq', ex⟩, fun y H' ⟨e1, e2⟩ => ?_⟩
  subst e1
  have : some x = some y := ex.symm.trans (e2 xs sq')
  cases this
  exact ⟨P, O, R, by simpa [RepF] using rx⟩
theorem yields_tup {a : Addr} {ds : List D} (hz : ds.length ≤ sizeLine) : Yields K W false (Itt K a) ds [.ref a] [.sh (.tup ds)] := by
  refine ⟨hz, rfl, noAt_sh _, fun P₀ H₀ σ st ρ rs τ ts H g hl R => ?_⟩
  obtain ⟨P, O, R⟩ := R
  have c : Rep K W P (.tup ds) (.ref a) := R.cell hl
  simp only [Rep] at c
  obtain ⟨a', xs, e, sq, _, rp⟩ := c
  cases e
  have sq' := R.sub.sqT sq.sq
  refine ⟨fun i d e => ?_, fun i hi => ⟨xs, sq', by rw [rp.length]; exact hi⟩⟩
  obtain ⟨x, ex, rx⟩ := rp.get e
  refine ⟨⟨xs, x, sq', ex⟩, fun y H' ⟨e1, e2⟩ => ?_⟩
  subst e1
  have : some x = some y := ex.symm.trans (e2 xs sq')
  cases this
  exact ⟨P, O, R, by simpa [RepF] using rx⟩
def chars (x : Str) : List D := x.cps.toList.map fun c => D.str ⟨#[c]⟩
theorem yields_str {x : Str} (hz : x.cps.size ≤ sizeLine) : Yields K W false (Its x) (chars x) [] [] := by
  refine ⟨by simpa [chars] using hz, rfl, (fun i h => by cases h), fun P₀ H₀ σ st ρ rs τ ts H g hl R => ⟨fun i d e => ?_, fun i hi => show x.cps.size ≤ i by simpa [chars] using hi⟩⟩
  simp only [chars, List.getElem?_map, Array.getElem?_toList] at e
  obtain ⟨c, e1, rfl⟩ := Option.map_eq_some_iff.mp e
  refine ⟨?_, fun y H' ⟨e2, c', e3, e4⟩ => ?_⟩
  · exact (Array.getElem?_eq_some_iff.mp e1).1
  · subst e2
    rw [e1] at e3; cases e3
    obtain ⟨P, O, R⟩ := R
    exact ⟨P, O, R, by simp [RepF, Rep, e4]⟩
def rangeD (lo : Int) (n : Nat) : List D := (List.range n).map fun (i : Nat) => D.int (lo + (i : Int))
theorem yields_range {lo : Int} {n : Nat} (hz : n ≤ sizeLine) : Yields K W false (Itr lo n) (rangeD lo n) [] [] := by
  refine ⟨by simpa [rangeD] using hz, rfl, (fun i h => by cases h), fun P₀ H₀ σ st ρ rs τ ts H g hl R => ⟨fun i d e => ?_, fun i hi => show n ≤ i by simpa [rangeD] using hi⟩⟩
  have hi : i < n := by
    have := (List.getElem?_eq_some_iff.mp e).1
    simpa [rangeD] using this
  refine ⟨hi, fun y H' ⟨e2, e3⟩ => ?_⟩
  subst e2
  simp only [rangeD, List.getElem?_map, List.getElem?_range hi, Option.map_some, Option.some.injEq] at e
  obtain ⟨P, O, R⟩ := R
  subst e
  exact ⟨P, O, R, by rw [e3]; simp [RepF, Rep]⟩
def zipD (xs ys : List D) : List D := List.zipWith (fun x y => D.tup [x, y]) xs ys
def enumD (ds : List D) : List D := ds.mapIdx fun i d => D.tup [.int (i : Nat), d]
end
/-! ### sources -/
def srcSeq (f : M G S) : M G (List D × List S) := fun st g => bnd (mTake f st g) fun d st g => match d with
  | .lst ds => some ((ds, [.sh (.lst ds)]), st, g)
  | .tup ds => some ((ds, [.sh (.tup ds)]), st, g)
  | .str x => if x.cps.size ≤ sizeLine then some ((chars x, []), st, g) else none
  | _ => none
theorem PI.or {X : Cx} {tg e : Expr} {wi wj : TI} (h : PI X tg e wi) (h' : PI X tg e wj) : PI X tg e (fun σ H R => wi σ H R ∨ wj σ H R) :=
  ⟨fun pins s σ H R I q => q.elim (h.run pins s σ H R I) (h'.run pins s σ H R I)⟩
section
variable {C : CF} {Fam : Wd G → Prop} {tg e e2 : Expr} {es : List Expr} {pos p tpos : Pos}
theorem i_seq {f : M G S} (he : DE C Fam e f) : DI C Fam false tg e (srcSeq f) := by
  obtain ⟨ta, pa, ea⟩ := he.ex
  refine ⟨fun σ H R => iList C.K ta σ H R ∨ iTup C.K ta σ H R ∨ iStr ta σ H R, fun j => PI.or (by rw [← C.hK j]; exact pi_list (pa j)) (PI.or (by rw [← C.hK j]; exact pi_tup (pa j)) (pi_str (pa j))), fun W hW P₀ H₀ σ st τ ts H g items cells st' g' R Rl h q => ?_⟩
  obtain ⟨d, st1, g1, e1, h⟩ := bnd_eq h
  obtain ⟨x, st0, e3, e4⟩ := mTake_eq e1
  cases d with
  | lst ds =>
    simp only [Option.some.injEq, Prod.mk.injEq] at h; obtain ⟨⟨rfl, rfl⟩, rfl, rfl⟩ := h
    refine .inl (ea W hW _ _ _ _ _ _ _ _ _ _ _ _ Rl e3 fun v H1 R1 => ?_)
    obtain ⟨P, O, R1⟩ := R1
    obtain ⟨P', O', R1⟩ := R1.takeV e4
    have c : Rep C.K W P' (.lst ds) v := R1.temps.1
    simp only [Rep] at c
    obtain ⟨a, xs, rfl, sq, hz, rp⟩ := c
    exact ⟨a, rfl, ⟨xs, SqL.of (R1.sub _ _ sq)⟩, q _ [.ref a] _ ⟨P', O', R1⟩ (yields_lst hz)⟩
  | tup ds =>
    simp only [Option.some.injEq, Prod.mk.injEq] at h; obtain ⟨⟨rfl, rfl⟩, rfl, rfl⟩ := h
    refine .inr (.inl (ea W hW _ _ _ _ _ _ _ _ _ _ _ _ Rl e3 fun v H1 R1 => ?_))
    obtain ⟨P, O, R1⟩ := R1
    obtain ⟨P', O', R1⟩ := R1.takeV e4
    have c : Rep C.K W P' (.tup ds) v := R1.temps.1
    simp only [Rep] at c
    obtain ⟨a, xs, rfl, sq, hz, rp⟩ := c
    exact ⟨a, rfl, ⟨xs, R1.sub.sqT sq.sq⟩, q _ [.ref a] _ ⟨P', O', R1⟩ (yields_tup hz)⟩
  | str y =>
    simp only at h
    split at h
    · rename_i hz
      simp only [Option.some.injEq, Prod.mk.injEq] at h; obtain ⟨⟨rfl, rfl⟩, rfl, rfl⟩ := h
      refine .inr (.inr (ea W hW _ _ _ _ _ _ _ _ _ _ _ _ Rl e3 fun v H1 R1 => ?_))
      obtain ⟨P, O, R1⟩ := R1
      obtain ⟨P', O', R1⟩ := R1.takeV e4
      have c : Rep C.K W P' (.str y) v := R1.temps.1
      simp only [Rep] at c
      exact ⟨y, c, q _ [] _ ⟨P', O', R1.pop⟩ (yields_str hz)⟩
    · cases h
  | _ => cases h
def srcRange1 (f : M G S) : M G (List D × List S) := fun st g => bnd (mTake f st g) fun d st g => match d with
  | .int j => if -(2 ^ 62) ≤ j ∧ j < 2 ^ 62 ∧ j.toNat ≤ sizeLine then some ((rangeD 0 j.toNat, []), st, g) else none
  | _ => none
theorem i_range1 {f : M G S} (he : DE C Fam e f) (hg : ∀ j, Gl (C.X j) "range" := by intro _; rfl) (hm : C.mg "range" = none) (hs : ∀ j, starEach [e] (C.X j).env = [(false, eval e (C.X j).env)] := by intro _; rfl) :
    DI C Fam false tg (.Call (.Name "range" p) [e] [] pos) (srcRange1 f) := by
  obtain ⟨ta, pa, ea⟩ := he.ex
  refine ⟨_, fun j => pi_range1 (hg j) (by rw [C.hmg j]; exact hm) (pa_cons (pa j) pa_nil (hs j)) (hs j), fun W hW P₀ H₀ σ st τ ts H g items cells st' g' R Rl h q => ?_⟩
  obtain ⟨d, st1, g1, e1, h⟩ := bnd_eq h
  obtain ⟨x, st0, e3, e4⟩ := mTake_eq e1
  cases d with
  | int i =>
    simp only at h
    split at h
    · rename_i hz
      simp only [Option.some.injEq, Prod.mk.injEq] at h; obtain ⟨⟨rfl, rfl⟩, rfl, rfl⟩ := h
      refine ea W hW _ _ _ _ _ _ _ _ _ _ _ _ Rl e3 fun v H1 R1 => ?_
      obtain ⟨P, O, R1⟩ := R1
      obtain ⟨P', O', R1⟩ := R1.takeV e4
      have c : Rep C.K W P' (.int i) v := R1.temps.1
      simp only [Rep] at c
      exact ⟨i, by rw [c], hz.1, hz.2.1, q _ [] _ ⟨P', O', R1.pop⟩ (yields_range hz.2.2)⟩
    · cases h
  | _ => cases h
def srcRange2 (f f2 : M G S) : M G (List D × List S) := fun st g => bnd (mTake f st g) fun d st g => bnd (mTake f2 st g) fun d2 st g => match d, d2 with
  | .int i, .int j => if (-(2 ^ 62) ≤ i ∧ i < 2 ^ 62) ∧ (-(2 ^ 62) ≤ j ∧ j < 2 ^ 62) ∧ (j - i).toNat ≤ sizeLine then some ((rangeD i (j - i).toNat, []), st, g) else none
  | _, _ => none
def srcZip (fa : M G (List D)) : M G (List D × List S) := fun st g => bnd (fa st g) fun ds st g => match ds with
  | [.lst xs, .lst ys] => some ((zipD xs ys, [.sh (.lst xs), .sh (.lst ys)]), st, g)
  | [.tup xs, .tup ys] => some ((zipD xs ys, [.sh (.tup xs), .sh (.tup ys)]), st, g)
  | _ => none
def srcEnum (f : M G S) : M G (List D × List S) := fun st g => bnd (mTake f st g) fun d st g => match d with
  | .lst ds => some ((enumD ds, [.sh (.lst ds)]), st, g)
  | _ => none
end
end DL
/-! DX0: tuples are sorted, empty ones among them. -/
namespace DX
open PySem PySem.W PyProof.Rows PySem.SeqAt
def isE : PyData → Bool
  | .tuple [] => true
  | _ => false
/-- what may be sorted -/
def Srt (ds : List PyData) : Prop := Sortable ds ∨ ∀ d ∈ ds, ∃ xs, d = .tuple xs
section
variable {prog : Program} {w : World} {A : Around} {E : Value → Shared → Prop} {s : Shared}
theorem tupLt {l b : Addr} {xs ys : Array Value} {e r : Nat → Bool} {Q : Value → Shared → Prop} (hl : s.heap.IsTuple l xs) (hb : s.heap.IsTuple b ys)
    (he : ∀ j (h1 : j < xs.size) (h2 : j < ys.size), EqAt A.in1 s xs[j] ys[j] (e j)) (hr : ∀ j (h1 : j < xs.size) (h2 : j < ys.size), e j = false → RcLt A.in1 s xs[j] ys[j] (r j))
    (q : Q (.bool (firstLt e r (decide (xs.size < ys.size)) (List.range (min xs.size ys.size)))) s) : wpAny (model prog w) A (call (.builtin "tuple.__lt__") [.ref l, .ref b]) Q E s := by
  obtain ⟨⟨c1, d1, t1, s1⟩, o1, rfl, n1, rfl⟩ := hl
  obtain ⟨⟨c2, d2, t2, s2⟩, o2, rfl, n2, rfl⟩ := hb
  exact call_meets F.slot_tuple_lt ⟨_, o1, rfl⟩ F.entry_tuple_lt (F.args_tuple_lt_2 _ _) (tuple_ltAt l b xs ys n1 n2 d1 d2 s1 s2 e r) ⟨o1, o2, he, hr, q⟩
/-- one tuple against another, told to be of one type -/
theorem oneLtT {xs ys : List PyData} {a b : Value} {as bs : List Addr} {Q : Bool → Shared → Prop} (ra : Reads s.heap a (.tuple xs) as) (rb : Reads s.heap b (.tuple ys) bs) (h : alikeAll xs ys = true)
    (hu : A.units + min (PyData.tuple xs).depth (PyData.tuple ys).depth < cLine) (q : Q (dataLt (.tuple xs) (.tuple ys)) s) : wpAny (model prog w) A (oneLt' true a b) Q E s := by
  cases ra with
  | @tuple l o vs n _ as₁ g1 g2 g3 g4 =>
    cases rb with
    | @tuple l' o' us n' _ bs₁ k1 k2 k3 k4 =>
      have z1 : vs.size = xs.length := by simpa using ReadsAll.length _ _ _ g4
      have z2 : us.size = ys.length := by simpa using ReadsAll.length _ _ _ k4
      rw [dataLt_tuple, ← firstLt_toks xs ys h, ← z1, ← z2] at q
      rw [oneLt'_eq, if_pos rfl]
      refine wpAny_bind (wpAny_cRoomFor (room_here hu) (wpAny_bind (wpAny_callSpecialIfBound?_slot (T := "tuple") ⟨_, g1, g2⟩ F.slot_tuple_lt (tupLt (e := pairEq xs ys) (r := fun j => dataLt (xs.getD j .none) (ys.getD j .none)) ⟨_, g1, g2, _, g3⟩ ⟨_, k1, k2, _, k3⟩ (fun j j1 j2 => ?_) (fun j j1 j2 hj => ?_) (wpAny_truthy_bool q)))))
      · have := eqAt_alikeAll xs ys A.in1 s vs.toList us.toList _ _ g4 k4 h (room_in hu) j (by simpa using j1) (by simpa using j2)
        simpa using this
      · have := rcLt_alikeAll xs ys A.in1 s vs.toList us.toList _ _ g4 k4 h (room_in hu) j (by simpa using j1) (by simpa using j2) hj
        simpa using this
/-- the first things of tuples -/
theorem headsOf {h : Heap} : ∀ {vs : List Value} {ds : List PyData}, EachIs (fun v d => ∃ as, Reads h v d as) vs ds → (∀ d ∈ ds, ∃ xs, d = .tuple xs) → ∃ fs : List (Option Value), fs.map Option.isSome = ds.map (fun d => !isE d) ∧
    ∀ {M : Model} {A : Around} {E : Value → Shared → Prop} {s : Shared} {Q : List (Option Value) → Shared → Prop}, s.heap = h → Q fs s → wpAny M A (vs.mapM firstOfTuple') Q E s
  | _, _, .nil, _ => ⟨[], rfl, fun _ q => by rw [List.mapM_nil]; exact wpAny_pure q⟩
  | _, _, .cons (a := v) (b := d) ⟨as, r⟩ t, ht => by
    obtain ⟨fs, e, run⟩ := headsOf t fun d hd => ht d (List.mem_cons_of_mem _ hd)
    obtain ⟨xs, rfl⟩ := ht d List.mem_cons_self
    cases r with
    | @tuple a o us n _ _ g1 g2 g3 g4 =>
      refine ⟨us[0]? :: fs, ?_, fun {M A E s Q} hs q => ?_⟩
      · rw [List.map_cons, List.map_cons, e]
        congr 1
        have z : us.size = xs.length := by simpa using ReadsAll.length _ _ _ g4
        cases xs with
        | nil => simp at z; simp [z, isE]
        | cons x xs => simp at z; simp [show 0 < us.size by omega, isE]
      · subst hs
        rw [List.mapM_cons, kas_first_eq]
        refine wpAny_bind (wpAny_bind (Looks.here (show Looks M s.heap (typeOf (.ref a)) o.cls from (Looks.ld g1).andThen .now) ?_))
        rw [g2, if_neg (by first | decide | simp)]
        refine wpAny_bind (listItems_at g1 g3 (wpAny_pure ?_))
        exact wpAny_bind (run (Q := fun b s' => wpAny M A (pure (us[0]? :: b)) Q E s') rfl (wpAny_pure q))
theorem kindT {vs : List Value} {ds : List PyData} {d₀ : PyData} {Q : SortKind → Shared → Prop} (e : EachIs (fun v d => ∃ as, Reads s.heap v d as) vs (d₀ :: ds)) (ht : ∀ d ∈ d₀ :: ds, ∃ xs, d = .tuple xs) (h0 : .tuple [] ∈ d₀ :: ds)
    (q : Q (if isE d₀ = true then oneType' else general') s) : wpAny (model prog w) A (keyKind' vs.toArray) Q E s := by
  obtain ⟨fs, ef, run⟩ := headsOf e ht
  rw [keyKind'_eq, List.mapM_toArray, map_eq_pure_bind]
  refine wpAny_bind (wpAny_bind (run rfl (wpAny_pure ?_)))
  have no : ¬ (fs.toArray.all fun x => x.isSome) = true := fun z => by
    have z : fs.all Option.isSome = true := by simpa using z
    obtain ⟨i, hi⟩ := List.getElem?_of_mem h0
    have a : (fs.map Option.isSome)[i]? = some false := by rw [ef, List.getElem?_map, hi]; rfl
    rw [List.getElem?_map] at a
    obtain ⟨f, hf, e2⟩ := Option.map_eq_some_iff.mp a
    have := List.all_eq_true.mp z f (List.mem_of_getElem? hf)
    rw [e2] at this; cases this
  rw [if_neg no]
  cases fs with
  | nil => cases ef
  | cons f fs =>
    rw [List.map_cons, List.map_cons] at ef
    injection ef with e1 e2
    by_cases c : isE d₀ = true
    · rw [if_pos c] at q
      have f0 : f = none := by cases f with
        | none => rfl
        | some _ => simp [c] at e1
      subst f0
      rw [if_neg (by simp)]
      rw [oneTypeOnly'_eq, List.mapM_toArray, map_eq_pure_bind]
      refine wpAny_bind (wpAny_bind (wpAny_bind (kas_mapM (r := Value.type "tuple") _ (fun v hv Q' hq => ?_) (wpAny_pure ?_))))
      · obtain ⟨d, hd, as, r⟩ := e.left v hv
        obtain ⟨xs, rfl⟩ := ht d hd
        exact (looks_reads r).here hq
      · cases vs with
        | nil => cases e
        | cons v vs =>
          have all : ((List.map (fun _ => Value.type "tuple") (v :: vs)).toArray.all fun x => x == Value.type "tuple") = true := by
            simp only [List.all_toArray, List.all_map, List.all_eq_true]
            intro _ _
            show (Value.type "tuple" == Value.type "tuple") = true
            decide
          have hd0 : (List.map (fun _ => Value.type "tuple") (v :: vs)).toArray[0]? = some (Value.type "tuple") := by simp
          rw [hd0]
          refine wpAny_pure ?_
          simp only [all, if_true]
          exact wpAny_pure q
    · rw [if_neg c] at q
      have f0 : f.isSome = true := by simp [c] at e1; exact e1
      rw [if_pos (by simpa using f0)]
      exact wpAny_pure q
theorem sorts {vs : List Value} {ds : List PyData} (e : EachIs (fun v d => ∃ as, Reads s.heap v d as) vs ds) (hal : AllAlike ds) (hk : Srt ds) (hu : ∀ d, d ∈ ds → A.units + d.depth < cLine) : SortsAt prog w A s (dataKind s.heap ds) vs := by
  rcases hk with hk | ht
  · exact SortsAt.data e hal hk hu
  by_cases h0 : .tuple [] ∈ ds
  · refine ⟨fun v hv => ?_, ?_⟩
    · obtain ⟨d, hd, as, r⟩ := e.left v hv
      exact ⟨_, dataKind_some hal hd r⟩
    · cases ds with
      | nil => cases h0
      | cons d₀ ds =>
        refine ⟨if isE d₀ = true then oneType' else general', ?_, fun _ E Q q => kindT e ht h0 q⟩
        intro E x y a b Q ha hb hq
        obtain ⟨d, as, hd, ra, rfl⟩ := dataKind_inv ha
        obtain ⟨d', as', hd', rb, rfl⟩ := dataKind_inv hb
        have hdd := hal d hd d' hd'
        have room : A.units + min d.depth d'.depth < cLine := Nat.lt_of_le_of_lt (Nat.add_le_add_left (Nat.min_le_left _ _) _) (hu d hd)
        obtain ⟨xs, rfl⟩ := ht d hd
        obtain ⟨ys, rfl⟩ := ht d' hd'
        split
        · rw [keyLt'_oneType]
          exact oneLtT ra rb (by simpa [alike] using hdd) room hq
        · show wpAny (model prog w) A (oneLt' false x y) Q E s
          exact oneLt_alike (fun z => by cases z) ra rb hdd (fun z => by cases z) room hq
  · refine SortsAt.data e hal (.inl fun d hd => ?_) hu
    obtain ⟨xs, rfl⟩ := ht d hd
    cases xs with
    | nil => exact absurd hd h0
    | cons x r => exact ⟨x, r, rfl⟩
theorem sort_srt {β : Type} {vs : List Value} {bs : List β} {enc : β → PyData} {R : Value → β → Prop} {a : Addr} {n : Nat} {Q : Value → Shared → Prop} (ho : s.heap.get? a = some (seqObj "list" vs.toArray n)) (e : EachIs R vs bs)
    (er : EachIs (fun v b => ∃ as, Reads s.heap v (enc b) as ∧ a ∉ as) vs bs) (hal : AllAlike (bs.map enc)) (hk : Srt (bs.map enc)) (hL : bs.length ≤ sizeLine) (hu : ∀ b, b ∈ bs → A.units + 1 + (enc b).depth < cLine)
    (h : ∀ out, out.length = bs.length → EachIs R out (bs.mergeSort (dataLe false enc)) → Q .none { s with heap := sortedHeap s.heap a vs (List.toArray out) }) : wpAny (model prog w) A (call (.builtin "list.sort") [.ref a]) Q E s := by
  have er2 : EachIs (fun v b => ∃ as, Reads (sortingHeap s.heap a vs) v (enc b) as) vs bs := each_keepBut (h' := sortingHeap s.heap a vs) (fun _ _ hb q => sortingHeap_old hb q) (fun o q => by rw [ho] at q; cases q; rfl) hal er
  refine wpAny_call_entry slot_list_sort ⟨_, ho, rfl⟩ entry_list_sort (list_sort_vals (κ := dataKind (sortingHeap s.heap a vs) (bs.map enc)) ho (sorts (s := { s with heap := sortingHeap s.heap a vs }) (each_map (R := fun v d => ∃ as, Reads (sortingHeap s.heap a vs) v d as) enc er2) hal hk (fun d hd => by
    obtain ⟨b, hb, rfl⟩ := List.mem_map.mp hd
    exact hu b hb)) (by rw [e.length]; exact hL) ⟨.none, rfl, h _ (by rw [sortVals_length false rfl]; exact e.length) (sortVals_data false e er2 hal)⟩) (args_list_sort _)
end
end DX
/-! DX: sets of keys, made of a list or a tuple. -/
namespace DX
open PySem PySem.Spec PyProof.Rows L2
/-- what is to be known of a set that grows at S, its things told by values of κ -/
structure Th (P : Program) (w : World) (κ : Type) (S : Addr) (h0 : Heap) where
  I : Heap → List (Value × κ) → Prop
  Ky : Value → κ → Prop
  keep : ∀ h h' L, I h L → (∀ o, h.get? S = some o → h'.get? S = some o) → (∀ b o, h0.get? b = some o → h'.get? b = some o) → I h' L
  add : ∀ (A : Around) (E : Value → Shared → Prop) (s : Shared) (v : Value) (k : κ) (L : List (Value × κ)) (Q : Bool → Shared → Prop), A.units + 20 < cLine → I s.heap L → Ky v k → L.length + 1 < 64 →
    (∀ b o, h0.get? b = some o → s.heap.get? b = some o) →
    (∀ b h' tk L', s.toks ≤ tk → Heap.SameBut S s.heap h' → I h' L' → (k ∈ L.map (·.2) → L' = L) → (k ∉ L.map (·.2) → L'.Perm ((v, k) :: L)) → Q b { s with heap := h', toks := tk }) →
    wpAny (model P w) A (setAdd S v) Q E s
/-- what the first i of ks have brought in -/
structure Has {κ : Type} (ks : List (Value × κ)) (i : Nat) (L : List (Value × κ)) : Prop where
  sub : ∀ p ∈ L, p ∈ ks.take i
  all : ∀ p ∈ ks.take i, p.2 ∈ L.map (·.2)
  nd : (L.map (·.2)).Nodup
  len : L.length ≤ i
theorem Has.start {κ : Type} (ks : List (Value × κ)) : Has ks 0 [] := ⟨by simp, by simp, by simp, Nat.le_refl _⟩
theorem Has.next {κ : Type} {ks L L' : List (Value × κ)} {i : Nat} {v : Value} {k : κ} (g : Has ks i L) (h : ks[i]? = some (v, k)) (h1 : k ∈ L.map (·.2) → L' = L) (h2 : k ∉ L.map (·.2) → L'.Perm ((v, k) :: L)) : Has ks (i + 1) L' := by
  have tk : ks.take (i + 1) = ks.take i ++ [(v, k)] := by
    have := List.take_succ (l := ks) (i := i)
    rw [this, h]; rfl
  by_cases c : k ∈ L.map (·.2)
  · rw [h1 c]
    exact ⟨fun p hp => by rw [tk]; exact List.mem_append_left _ (g.sub p hp), fun p hp => by
      rw [tk] at hp
      rcases List.mem_append.mp hp with z | z
      · exact g.all p z
      · simp only [List.mem_singleton] at z; rw [z]; exact c, g.nd, Nat.le_succ_of_le g.len⟩
  · have pm := h2 c
    refine ⟨fun p hp => ?_, fun p hp => ?_, ?_, by rw [pm.length_eq]; have := g.len; simp; omega⟩
    · rw [tk]
      rcases List.mem_cons.mp (pm.mem_iff.mp hp) with e | z
      · rw [e]; simp
      · exact List.mem_append_left _ (g.sub p z)
    · rw [(pm.map (·.2)).mem_iff]
      rw [tk] at hp
      rcases List.mem_append.mp hp with z | z
      · exact List.mem_cons_of_mem _ (g.all p z)
      · simp only [List.mem_singleton] at z; rw [z]; simp
    · exact (pm.map (·.2)).nodup_iff.mpr (List.nodup_cons.mpr ⟨c, g.nd⟩)
section
variable {P : Program} {w : World} {A : Around} {E : Value → Shared → Prop} {s : Shared} {κ : Type}
theorem update_th {I : Addr} {fp wr : List Addr} {Gs : Array GenState → Array GenState → Prop} {n : Nat} {Pv : Nat → Value → Prop} {St : Nat → Shared → Prop} {R : Result → Shared → Prop}
    (Wk : WalksS P w A.in1 I fp wr Gs n Pv St) (S : Addr) (hSf : S ∉ fp) (h0 : Heap) (T : Th P w κ S h0) (ks : List (Value × κ)) (hn : n = ks.length) (hfew : ks.length < 64) (hval : ∀ i v, Pv i v → ∃ k, ks[i]? = some (v, k))
    (hk : ∀ p ∈ ks, T.Ky p.1 p.2) (hS0 : h0.get? S = none) (hw0 : ∀ b ∈ wr, h0.get? b = none) (hu : A.in1.units + 20 < cLine) :
    ∀ (m i : Nat) (s : Shared), n - i = m → i ≤ n → St i s → (∀ b o, h0.get? b = some o → s.heap.get? b = some o) → (∃ L, T.I s.heap L ∧ Has ks i L) →
      (∀ s' L, Moved (S :: wr) Gs s s' → T.I s'.heap L → Has ks n L → (∀ b o, h0.get? b = some o → s'.heap.get? b = some o) → R (.ok (.ret .none)) s') →
      codeAny (model P w) A (.builtin "set.update.loop" ⟨[.ref S, .ref I], []⟩) R s := by
  have hSw : S ∉ wr := fun h => hSf (Wk.sub _ h)
  have up : ∀ b ∈ wr, b ∈ S :: wr := fun b hb => List.mem_cons_of_mem _ hb
  have kp : ∀ {s s' : Shared}, Moved wr Gs s s' → (∀ b o, h0.get? b = some o → s.heap.get? b = some o) → ∀ b o, h0.get? b = some o → s'.heap.get? b = some o := fun hm hkp b o e => hm.heap b o (fun hb => by rw [hw0 b hb] at e; cases e) (hkp b o e)
  intro m
  induction m with
  | zero =>
    intro i s hm0 hi hst hkp ⟨L, hS, g⟩ hR
    obtain rfl : i = n := by omega
    refine codeAny_builtin F.entry_set_update_loop ?_
    rw [Around.under_plainId F.plain_set_update_loop _]
    refine wpAny_bind (Wk.done s _ _ hst fun s' hm => wpAny_pure (hR s' L (hm.mono up) (T.keep _ _ _ hS (fun o e => hm.heap S o hSw e) (kp hm hkp)) g (kp hm hkp)))
  | succ m ih =>
    intro i s hm0 hi hst hkp ⟨L, hS, g⟩ hR
    have hlt : i < n := by omega
    refine codeAny_builtin F.entry_set_update_loop ?_
    rw [Around.under_plainId F.plain_set_update_loop _]
    refine wpAny_bind (Wk.item i s _ _ hlt hst fun v s' hP hst' hm => ?_)
    obtain ⟨k, hp⟩ := hval i v hP
    have hS' := T.keep _ s'.heap _ hS (fun o e => hm.heap S o hSw e) (kp hm hkp)
    show wpAny _ A.in1 (holding [v] (setAdd S v) >>= _) _ _ s'
    refine wpAny_bind (wpAny_holding (T.add A.in1 _ s' v k L _ hu hS' (hk (v, k) (List.mem_of_getElem? hp)) (by have := g.len; omega) (kp hm hkp) fun b h' tk L' ht hsb hI c1 c2 => ?_))
    have hkp2 : ∀ b o, h0.get? b = some o → h'.get? b = some o := fun b o e => (hsb.2 b (fun z => by rw [z, hS0] at e; cases e)).trans (kp hm hkp b o e)
    refine wpAny_pure ⟨plainId_quiet F.plain_set_update_loop _, ih (i + 1) _ (by omega) hlt (Wk.frame _ s' _ _ hst' ht fun b hb o e => by rw [hsb.2 b (fun z : b = S => hSf (z ▸ hb))]; exact e) hkp2 ⟨L', hI, g.next hp c1 c2⟩ fun s'' L2 hm2 hS2 g2 hkp3 => ?_⟩
    exact hR s'' L2 (Moved.trans Wk.gtrans ((hm.mono up).then_heap ht fun b o hb e => by rw [hsb.2 b (fun z : b = S => hb (z ▸ List.mem_cons_self))]; exact e) hm2) hS2 g2 hkp3
abbrev new0 (w : World) : Obj := { cls := .type "set", dict := none, data := .set #[] 0 (.fresh 0 0 (!w.params.followText "set-order")) }
end
end DX
namespace DX
open PySem PySem.Spec PyProof.Rows L2
section
variable {P : Program} {w : World} {A : Around} {E : Value → Shared → Prop} {s : Shared} {κ : Type}
theorem none_ge {h : Heap} {b : Addr} (hb : h.objs.size ≤ b) : h.get? b = none := by
  cases q : h.get? b with
  | none => rfl
  | some o => exact absurd (Nat.lt_of_lt_of_le (Heap.lt_size q) hb) (Nat.lt_irrefl _)
/-- what is wanted of the set's first state -/
def Fresh (T : Th P w κ S h0) : Prop := ∀ h : Heap, h.get? S = some (new0 w) → T.I h []
theorem vals_at {items : Array Value} {ks : List (Value × κ)} (hit : items.toList = ks.map (·.1)) : ∀ (i : Nat) (v : Value), items[i]? = some v → ∃ k, ks[i]? = some (v, k) := fun i v hv => by
  have q : items.toList[i]? = some v := (Array.getElem?_toList ..).trans hv
  rw [hit, List.getElem?_map] at q
  obtain ⟨p, e1, e2⟩ := Option.map_eq_some_iff.mp q
  exact ⟨p.2, by rw [e1, ← e2]⟩
theorem upd_list {l S : Addr} {items : Array Value} (ks : List (Value × κ)) {h0 : Heap} (T : Th P w κ S h0) {Q : Unit → Shared → Prop} (hh : A.handled = none) (hl : s.heap.IsList l items) (hit : items.toList = ks.map (·.1))
    (hk : ∀ p ∈ ks, T.Ky p.1 p.2) (hfew : ks.length < 64) (hu : A.units + 30 < cLine) (hS : T.I s.heap []) (hSl : S ≠ l) (hSs : S < s.heap.objs.size) (hS0 : h0.get? S = none) (hz0 : h0.objs.size ≤ s.heap.objs.size) (hkp : ∀ b o, h0.get? b = some o → s.heap.get? b = some o)
    (h : ∀ (h' : Heap) (tk : Nat) L, T.I h' L → Has ks ks.length L → (∀ b o, h0.get? b = some o → h'.get? b = some o) → Q () { s with heap := h', toks := tk }) :
    wpAny (model P w) A (Builtin.Frozenset.updateFrom "set.__init__" S (.ref l)) Q E s := by
  have hisz : items.size = ks.length := by have q := congrArg List.length hit; simpa using q
  obtain ⟨⟨ocls, odict, odata, oslots⟩, hol, hcl, nl, hdl⟩ := id hl
  simp only at hcl hdl
  subst hcl; subst hdl
  have hsls := F.sub_list_set; have hslf := F.sub_list_frozenset
  have hne : (Value.type "list" == Value.type "dict") = false := by decide
  have hlS : l < s.heap.objs.size := Heap.lt_size hol
  unfold Builtin.Frozenset.updateFrom
  generalize hPI : pyIter = PI
  wp_walk
  subst hPI
  refine wpAny_pyIter_list hl (wpAny_bind (wpAny_runValue ?_))
  have hSf : S ∉ [s.heap.objs.size, l] := by
    intro z
    rcases List.mem_cons.mp z with z | z
    · exact absurd z (Nat.ne_of_lt hSs)
    · exact hSl (List.mem_singleton.mp z)
  refine update_th ((Walks.list (by simp [hh]) _ l (Nat.ne_of_lt hlS) items).toS) S hSf h0 T ks hisz hfew (vals_at hit) hk hS0 (fun b hb => none_ge (by rw [List.mem_singleton.mp hb]; exact hz0)) (by show A.units + 1 + 20 < cLine; omega) (items.size - 0) 0 _ (by omega) (Nat.zero_le _)
    ⟨⟨_, Heap.get?_push_size _ rfl, rfl, rfl⟩, hl.push _⟩ (fun b o e => Heap.get?_push_of_some _ (hkp b o e)) ⟨[], T.keep _ _ _ hS (fun o e => Heap.get?_push_of_some _ e) (fun b o e => Heap.get?_push_of_some _ (hkp b o e)), Has.start ks⟩ ?hR
  case hR =>
    intro s' L hm hS' g' hkp
    obtain ⟨h', g2, d', tk', os'⟩ := s'
    obtain rfl : g2 = s.gens := hm.gens
    obtain rfl : d' = s.drawn := hm.drawn
    obtain rfl : os' = s.os := hm.os
    rw [hisz] at g'
    exact wpAny_pure (h h' tk' L hS' g' hkp)
theorem upd_tuple {l S : Addr} {items : Array Value} (ks : List (Value × κ)) {h0 : Heap} (T : Th P w κ S h0) {Q : Unit → Shared → Prop} (hh : A.handled = none) (hl : s.heap.IsTuple l items) (hit : items.toList = ks.map (·.1))
    (hk : ∀ p ∈ ks, T.Ky p.1 p.2) (hfew : ks.length < 64) (hu : A.units + 30 < cLine) (hS : T.I s.heap []) (hSl : S ≠ l) (hSs : S < s.heap.objs.size) (hS0 : h0.get? S = none) (hz0 : h0.objs.size ≤ s.heap.objs.size) (hkp : ∀ b o, h0.get? b = some o → s.heap.get? b = some o)
    (h : ∀ (h' : Heap) (tk : Nat) L, T.I h' L → Has ks ks.length L → (∀ b o, h0.get? b = some o → h'.get? b = some o) → Q () { s with heap := h', toks := tk }) :
    wpAny (model P w) A (Builtin.Frozenset.updateFrom "set.__init__" S (.ref l)) Q E s := by
  have hisz : items.size = ks.length := by have q := congrArg List.length hit; simpa using q
  obtain ⟨⟨ocls, odict, odata, oslots⟩, hol, hcl, nl, hdl⟩ := id hl
  simp only at hcl hdl
  subst hcl; subst hdl
  have hsls := F.sub_tuple_set; have hslf := F.sub_tuple_frozenset
  have hne : (Value.type "tuple" == Value.type "dict") = false := by decide
  have hlS : l < s.heap.objs.size := Heap.lt_size hol
  unfold Builtin.Frozenset.updateFrom
  generalize hPI : pyIter = PI
  wp_walk
  subst hPI
  refine wpAny_pyIter_tuple hl (wpAny_bind (wpAny_runValue ?_))
  have hSf : S ∉ [s.heap.objs.size, l] := by
    intro z
    rcases List.mem_cons.mp z with z | z
    · exact absurd z (Nat.ne_of_lt hSs)
    · exact hSl (List.mem_singleton.mp z)
  refine update_th ((Walks.tuple (by simp [hh]) _ l (Nat.ne_of_lt hlS) items).toS) S hSf h0 T ks hisz hfew (vals_at hit) hk hS0 (fun b hb => none_ge (by rw [List.mem_singleton.mp hb]; exact hz0)) (by show A.units + 1 + 20 < cLine; omega) (items.size - 0) 0 _ (by omega) (Nat.zero_le _)
    ⟨⟨_, Heap.get?_push_size _ rfl, rfl, rfl⟩, ⟨_, Heap.get?_push_of_some _ hol, rfl, nl, rfl⟩⟩ (fun b o e => Heap.get?_push_of_some _ (hkp b o e)) ⟨[], T.keep _ _ _ hS (fun o e => Heap.get?_push_of_some _ e) (fun b o e => Heap.get?_push_of_some _ (hkp b o e)), Has.start ks⟩ ?hR
  case hR =>
    intro s' L hm hS' g' hkp
    obtain ⟨h', g2, d', tk', os'⟩ := s'
    obtain rfl : g2 = s.gens := hm.gens
    obtain rfl : d' = s.drawn := hm.drawn
    obtain rfl : os' = s.os := hm.os
    rw [hisz] at g'
    exact wpAny_pure (h h' tk' L hS' g' hkp)
/-- set(x), by what is put in -/
theorem set_call {v : Value} (B : Heap → Nat → Prop) {Q : Value → Shared → Prop}
    (hU : ∀ (A' : Around) (s1 : Shared) (E' : Value → Shared → Prop) (Q' : Unit → Shared → Prop), A'.handled = A.handled → A'.units ≤ A.units + 4 → s1 = { s with heap := s.heap.push (new0 w) } → (∀ h' tk, B h' tk → Q' () { s with heap := h', toks := tk }) →
      wpAny (model P w) A' (Builtin.Frozenset.updateFrom "set.__init__" s.heap.objs.size v) Q' E' s1)
    (h : ∀ h' tk, B h' tk → Q (.ref s.heap.objs.size) { s with heap := h', toks := tk }) : wpAny (model P w) A (call (.type "set") [v]) Q E s := by
  obtain ⟨c, tl, hmro⟩ := F.called_set.mro
  have hmade := F.called_set.made; have hsub := F.called_set.sub
  have h1 := F.called_set.notType; have h2 := F.called_set.canCreate; have hct := F.typeCall_set_1 v
  refine wpAny_call (codeAny_of_tree (?_ : wpAny _ _ (callAny (.type "set") _) _ _ _))
  refine wpAny_pure ⟨Code.quiet_builtin _ (by decide +kernel), codeAny_builtin F.entry_type_call ?_⟩
  rw [Around.under_plain (weight_type_call_type "set" [v] []) rfl]
  repeat (any_goals (first | assumption | wp_step))
  refine codeAny_mono (code_set_led1 v (E := E) (Q₁ := fun obj s₁ => obj = .ref s.heap.objs.size ∧ s₁ = { s with heap := s.heap.push (new0 w) }) ⟨rfl, rfl⟩) fun r s₁ hr => ?_
  cases r with
  | error e => exact hr
  | ok fl =>
    cases fl with
    | ret obj =>
      obtain ⟨rfl, rfl⟩ := hr
      have hS : (s.heap.push (new0 w)).get? s.heap.objs.size = some (new0 w) := Heap.get?_push_size _ rfl
      have hT : Shared.TypeIs { s with heap := s.heap.push (new0 w) } (.ref s.heap.objs.size) "set" := ⟨_, hS, rfl⟩
      have hli := F.called_set.init.lookup; have hbi := F.called_set.init.bind (.ref s.heap.objs.size)
      repeat (any_goals (first | assumption | wp_step))
      refine codeAny_mono (codeAny_call_builtin (R := wants (fun r s₂ => r = .none ∧ ∃ h' tk, s₂ = { s with heap := h', toks := tk } ∧ B h' tk) E) F.called_set.init.plain F.entry_set_init (check_set_init_1 hT ?_)) fun r₂ s₂ hr₂ => ?_
      · unfold Builtin.«set.__init__» noKeywords
        generalize hUP : Builtin.Frozenset.updateFrom = UP
        wp_walk
        subst hUP
        refine hU _ _ _ _ ?_ ?_ rfl fun h' tk hB => wpAny_pure ⟨rfl, h', tk, rfl, hB⟩
        · rfl
        · show A.units + 1 + 1 ≤ _; omega
      · cases r₂ with
        | error e => exact hr₂
        | ok fl₂ =>
          cases fl₂ with
          | ret r =>
            obtain ⟨rfl, h', tk, rfl, hB⟩ := hr₂
            repeat (any_goals (first | assumption | wp_step))
            exact h _ _ hB
          | _ => exact hr₂.elim
    | _ => exact hr.elim
end
end DX
namespace DX
open PySem PySem.Spec PyProof.Rows L2
/-- the state of a set, whatever its things are -/
structure Sat (w : World) (h : Heap) (S : Addr) (es : Array (Int × Value)) (ep : Nat) (t : SetTable) : Prop where
  ob : ∃ o, h.get? S = some o ∧ o.ExactSet ∧ o.data = .set es ep t
  few : es.size < scanBound
  fits : t.fits es.size = true
  ris : Ris t.place.toList
  led : w.params.followText "set-order" = true ∨ t.led = true
theorem Sat.at {w : World} {h h' : Heap} {S : Addr} {es : Array (Int × Value)} {ep : Nat} {t : SetTable} (x : Sat w h S es ep t) (k : ∀ o, h.get? S = some o → h'.get? S = some o) : Sat w h' S es ep t :=
  let ⟨o, ho, r⟩ := x.ob
  ⟨⟨o, k o ho, r⟩, x.few, x.fits, x.ris, x.led⟩
theorem sat_new {w : World} {h : Heap} {S : Addr} (ho : h.get? S = some (new0 w)) : Sat w h S #[] 0 (.fresh 0 0 (!w.params.followText "set-order")) :=
  ⟨⟨_, ho, ⟨rfl, rfl, rfl⟩, rfl⟩, (by decide), rfl, List.Pairwise.nil, by
    cases e : w.params.followText "set-order"
    · right; show (!false) = true; rfl
    · left; rfl⟩
section
variable {P : Program} {w : World} {A : Around} {E : Value → Shared → Prop} {s : Shared}
/-- a set of ints and texts -/
def KI (w : World) (S : Addr) (h : Heap) (L : List (Value × Key)) : Prop :=
  ∃ es ep t, Sat w h S es ep t ∧ es.toList = L.map (fun p => (keyH w p.2, p.1)) ∧ ∀ p ∈ L, keyIs p.2 p.1 = true
theorem elems_of (P : Program) (w : World) {L : List (Value × Key)} (hk : ∀ p ∈ L, keyIs p.2 p.1 = true) : ElemsOf (mixKind P w) (L.map fun p => (keyH w p.2, p.1)) := fun e he => by
  obtain ⟨p, hp, rfl⟩ := List.mem_map.mp he
  refine ⟨⟨p.2, hk p hp, rfl⟩, ?_⟩
  rcases keyIs_shape (hk p hp) with ⟨i, t, _, e⟩ | ⟨x, t, _, e⟩ <;> rw [e] <;> rfl
theorem scan_of {k : Key} {v : Value} (h : keyIs k v = true) : v.scannable = true := by
  rcases keyIs_shape h with ⟨i, t, _, e⟩ | ⟨x, t, _, e⟩ <;> rw [e] <;> rfl
theorem find_mem (P : Program) (w : World) {L : List (Value × Key)} {k : Key} (hk : ∀ p ∈ L, keyIs p.2 p.1 = true) (e : Int × Value) (he : e ∈ L.map fun p => (keyH w p.2, p.1)) (q : keyIs k e.2 = true) : k ∈ L.map (·.2) := by
  obtain ⟨p, hp, rfl⟩ := List.mem_map.mp he
  have := (mixKind P w).inj p.1 k p.2 q (hk p hp)
  exact List.mem_map.mpr ⟨p, hp, this.symm⟩
theorem tail_th {g : Bool → Sem Unit} (hg : ∀ (b : Bool) (s₁ : Shared) (Q' : Unit → Shared → Prop), Q' () s₁ → wpAny (model P w) A (g b) Q' E s₁)
    {S : Addr} {o : Obj} {es : Array (Int × Value)} {ep : Nat} {t : SetTable} (ho : s.heap.get? S = some o) (hex : o.ExactSet) (hd : o.data = .set es ep t)
    {es1 : Array (Int × Value)} {t2 : SetTable} {L1 : List (Value × Key)} (e1 : es1.toList = L1.map fun p => (keyH w p.2, p.1)) (k1 : ∀ p ∈ L1, keyIs p.2 p.1 = true)
    (hb1 : es1.size < scanBound) (hf2 : t2.fits es1.size = true) (hr : Ris t2.place.toList) (hl : w.params.followText "set-order" = true ∨ t2.led = true) {wasDummy : Bool} {R : Option Bool → Shared → Prop}
    (hR : ∀ h' L', Heap.SameBut S s.heap h' → KI w S h' L' → L'.Perm L1 → R (some true) { s with heap := h' }) :
    wpAny (model P w) A (do
        storeSet S es1 t2
        if (!wasDummy && t2.tooFull) = true then do
            g (relayAll t2 es1 (SetTable.grown es1.size)).2.2
            storeSet S (relayAll t2 es1 (SetTable.grown es1.size)).1 (relayAll t2 es1 (SetTable.grown es1.size)).2.1
            pure (some true)
          else pure (some true)) R E s := by
  have ho1 := store_at (es' := es1) (t' := t2) ho hd
  have sb1 := Heap.SameBut.update s.heap S (Obj.putSet es1 t2)
  refine wpAny_bind (wpAny_storeSet_of ho hd ?_ (fits_of_scanBound hb1))
  by_cases hc : (!wasDummy && t2.tooFull) = true
  · rw [if_pos hc]
    have pm := relayAll_perm t2 es1 (SetTable.grown es1.size)
    have hf3 := relayAll_fits t2 es1 (SetTable.grown es1.size)
    have hr3 := relayAll_ris t2 es1 (SetTable.grown es1.size)
    have hl3 := relayAll_led t2 es1 (SetTable.grown es1.size)
    generalize relayAll t2 es1 (SetTable.grown es1.size) = Z at pm hf3 hr3 hl3 ⊢
    obtain ⟨es2, t3, gave⟩ := Z
    dsimp only at pm hf3 hr3 hl3 ⊢
    have hb2 : es2.size < scanBound := by rw [← Array.length_toList, pm.length_eq, Array.length_toList]; exact hb1
    obtain ⟨L2, pL, eL⟩ := perm_lift (fun p : Value × Key => (keyH w p.2, p.1)) pm L1 e1.symm
    refine wpAny_bind (hg _ _ _ (wpAny_bind (wpAny_storeSet_of ho1 rfl ?_ (fits_of_scanBound hb2))))
    have ho2 := store_at (es' := es2) (t' := t3) ho1 rfl
    refine wpAny_pure (hR _ L2 (sb1.trans (Heap.SameBut.update _ S _)) ⟨es2, _, t3, ⟨⟨_, ho2, hex, rfl⟩, hb2, hf3, hr3, hl.imp id fun z => by rw [hl3]; exact z⟩, eL.symm, fun p hp => k1 p (pL.mem_iff.mp hp)⟩ pL)
  · rw [if_neg hc]
    exact wpAny_pure (hR _ L1 sb1 ⟨es1, _, t2, ⟨⟨_, ho1, hex, rfl⟩, hb1, hf2, hr, hl⟩, e1, k1⟩ (List.Perm.refl _))
theorem add_key {S : Addr} {L : List (Value × Key)} {k : Key} {v : Value} {Q : Bool → Shared → Prop} (R : KI w S s.heap L) (hv : keyIs k v = true) (room : L.length + 1 < 64)
    (hQ : ∀ b h' L', Heap.SameBut S s.heap h' → KI w S h' L' → (k ∈ L.map (·.2) → L' = L) → (k ∉ L.map (·.2) → L'.Perm ((v, k) :: L)) → Q b { s with heap := h' }) :
    wpAny (model P w) A (setAddHashed S v (keyH w k)) Q E s := by
  obtain ⟨es, ep, t, ⟨⟨o, ho, hex, hd⟩, hb, hf, hr, hl⟩, hes, hks⟩ := R
  have hel : ElemsOf (mixKind P w) es.toList := by rw [hes]; exact elems_of P w hks
  have hlen : es.size = L.length := by rw [← Array.length_toList, hes, List.length_map]
  have hsc := scan_of hv
  unfold setAddHashed setAddHashedIn
  refine wpAny_holding (wpAny_bind (wpAny_setState_of ho hd hf ?_))
  dsimp only
  rw [byScan_of hsc hb hel]
  simp only [↓reduceIte]
  unfold setAddByScan
  refine wpAny_bind (wpAny_bind (wpAny_rule (wpAny_bind (wpAny_setScan_of (knd := mixKind P w) hv ho hd hf hel ?_))))
  cases hfi : List.findIdx? (fun e => (mixKind P w).is k e.2) es.toList with
  | some j =>
    dsimp only
    obtain ⟨hj, pj, _⟩ := List.findIdx?_eq_some_iff_getElem.mp hfi
    have hm : k ∈ L.map (·.2) := find_mem P w hks es.toList[j] (by rw [← hes]; exact List.getElem_mem hj) pj
    exact wpAny_pure (wpAny_pure (hQ false s.heap L (Heap.SameBut.refl S s.heap) ⟨es, ep, t, ⟨⟨o, ho, hex, hd⟩, hb, hf, hr, hl⟩, hes, hks⟩ (fun _ => rfl) fun z => absurd hm z))
  | none =>
    dsimp only
    have hnk : k ∉ L.map (·.2) := fun z => by
      obtain ⟨p, hp, rfl⟩ := List.mem_map.mp z
      have c := List.findIdx?_eq_none_iff.mp hfi (keyH w p.2, p.1) (by rw [hes]; exact List.mem_map.mpr ⟨p, hp, rfl⟩)
      have c2 : (mixKind P w).is p.2 p.1 = true := hks p hp
      rw [c2] at c; cases c
    have hgw : ∀ (b : Bool) {s₁ : Shared} {Q' : Unit → Shared → Prop}, Q' () s₁ → wpAny (model P w) A (match b with | true => rule "set.scan.the-table-gave-way" | false => pure ()) Q' E s₁ := fun b _ _ q => by
      cases b
      · exact wpAny_pure q
      · exact wpAny_rule q
    have pm := layNew_perm t es ((mixKind P w).hash k) v
    have hf1 := layNew_fits t es ((mixKind P w).hash k) v
    have hr1 := layNew_ris t es ((mixKind P w).hash k) v hr
    have hl1 := layNew_led t es ((mixKind P w).hash k) v
    have hkk : (mixKind P w).hash k = keyH w k := rfl
    rw [← hkk]
    generalize layNew t es ((mixKind P w).hash k) v = Z at pm hf1 hr1 hl1 ⊢
    obtain ⟨es1, t1, wasDummy, gave⟩ := Z
    dsimp only at pm hf1 hr1 hl1 ⊢
    rw [Array.toList_push] at pm
    have pc : es1.toList.Perm ((keyH w k, v) :: es.toList) := pm.trans (List.perm_append_singleton _ _)
    obtain ⟨L1, pL, eL⟩ := perm_lift (fun p : Value × Key => (keyH w p.2, p.1)) pc ((v, k) :: L) (by rw [List.map_cons, hes])
    have k1 : ∀ p ∈ L1, keyIs p.2 p.1 = true := fun p hp => by
      rcases List.mem_cons.mp (pL.mem_iff.mp hp) with z | z
      · rw [z]; exact hv
      · exact hks p z
    have hsz : es1.size = L.length + 1 := by rw [← Array.length_toList, pc.length_eq, List.length_cons, Array.length_toList, hlen]
    have hb1 : es1.size < scanBound := by rw [hsz]; unfold scanBound; omega
    have hled : w.params.followText "set-order" = true ∨ t1.led = true := hl.imp id fun z => by rw [hl1]; exact z
    have fin : ∀ h' L', Heap.SameBut S s.heap h' → KI w S h' L' → L'.Perm L1 → Q true { s with heap := h' } := fun h' L' sb r q => hQ true h' L' sb r (fun z => absurd z hnk) fun _ => q.trans pL
    refine wpAny_bind (hgw _ ?_)
    split
    · refine wpAny_bind ?_
      rw [hashByValue_scannable 8 hsc]
      refine wpAny_pure ?_
      refine tail_th ?_ ho hex hd eL.symm k1 hb1 ?_ ?_ ?_ ?_
      · intro b s₁ Q' q; cases b <;> first | exact wpAny_pure q | exact wpAny_rule q
      · first | (split <;> first | exact hf1 | exact SetTable.fits_plain_off hf1) | exact hf1
      · first | (split <;> exact hr1) | exact hr1
      · first | (split <;> exact hled) | exact hled
      · intro h' L' sb r q; dsimp only; exact wpAny_pure (fin h' L' sb r q)
    · refine wpAny_bind (wpAny_pure ?_)
      simp only [↓reduceIte]
      refine tail_th ?_ ho hex hd eL.symm k1 hb1 hf1 hr1 hled ?_
      · intro b s₁ Q' q; cases b <;> first | exact wpAny_pure q | exact wpAny_rule q
      · intro h' L' sb r q; dsimp only; exact wpAny_pure (fin h' L' sb r q)
/-- the theory of sets of ints and texts -/
def thK (P : Program) (w : World) (S : Addr) (h0 : Heap) : Th P w Key S h0 where
  I := KI w S
  Ky := fun v k => keyIs k v = true
  keep := fun h h' L ⟨es, ep, t, x, r⟩ k _ => ⟨es, ep, t, x.at k, r⟩
  add := fun A E s v k L Q hu hI hv hz _ hQ => by
    unfold setAdd
    refine wpAny_holding (wpAny_bind ((mixKind P w).pyHash hv ?_))
    refine add_key (s := { s with toks := s.toks + 1 }) hI hv hz fun b h' L' sb r c1 c2 => hQ b h' (s.toks + 1) L' (Nat.le_succ _) sb r c1 c2
theorem fresh_thK (S : Addr) (h0 : Heap) : Fresh (thK P w S h0) := fun h ho => ⟨#[], 0, _, sat_new ho, rfl, fun p hp => by cases hp⟩
end
end DX
namespace DX
open PySem PySem.Spec PyProof.Rows L2
/-- a set object whose things are xs, in the order of its table -/
def SetO (w : World) (p : Addr) (xs : List V) : HO := .ext fun h => ∃ es ep t, Sat w h p es ep t ∧ Vals xs (es.toList.map (·.2))
theorem setO_ok {P : Program} {w : World} {H : Hp} {h : Heap} {p : Addr} {xs : List V} {es : Array (Int × Value)} {ep : Nat} {t : SetTable} (x : Sat w h p es ep t) (r : Vals xs (es.toList.map (·.2))) : ObjOk P w H h p (SetO w p xs) :=
  ⟨⟨es, ep, t, x, r⟩, let ⟨o, ho, _⟩ := x.ob; ⟨o, ho⟩, fun h1 h2 ⟨es, ep, t, x, r⟩ k => ⟨es, ep, t, x.at k, r⟩⟩
theorem setO_get {X : Cx} {pins : List (Addr × Obj)} {σ : L2.St} {H : Hp} {s : Shared} {p : Addr} {xs : List V} (I : Inv X pins σ H s) (hp : H p = some (SetO X.w p xs)) : ∃ es ep t, Sat X.w s.heap p es ep t ∧ Vals xs (es.toList.map (·.2)) := (I.hok p _ hp).1
/-- values paired with their keys -/
theorem keyed_of : ∀ {ks : List Key} {us : List Value}, Vals (ks.map kV) us → ∃ zs : List (Value × Key), us = zs.map (·.1) ∧ ks = zs.map (·.2) ∧ ∀ z ∈ zs, keyIs z.2 z.1 = true
  | [], _, .nil => ⟨[], rfl, rfl, fun z h => by cases h⟩
  | k :: ks, _, .cons (b := u) r t => by
    obtain ⟨zs, e1, e2, h⟩ := keyed_of t
    refine ⟨(u, k) :: zs, by rw [e1, List.map_cons], by rw [e2, List.map_cons], fun z hz => ?_⟩
    rcases List.mem_cons.mp hz with e | hz
    · rw [e]
      cases k with
      | inl i => obtain ⟨tk, rfl⟩ := r; exact keyIs_int i tk
      | inr x => obtain ⟨tk, rfl⟩ := r; exact keyIs_str x tk
    · exact h z hz
theorem vals_of_keyed : ∀ (L : List (Value × Key)), (∀ z ∈ L, keyIs z.2 z.1 = true) → Vals ((L.map (·.2)).map kV) (L.map (·.1))
  | [], _ => .nil
  | (v, k) :: L, h => by
    refine .cons ?_ (vals_of_keyed L fun z hz => h z (List.mem_cons_of_mem _ hz))
    exact relV_key (h (v, k) List.mem_cons_self)
section
variable {X : Cx}
/-- set(xs), xs a list or a tuple of ints and texts -/
def rSetK (w : World) (K : PySem.W.Frag) : List V → Hp → VK → Prop := fun vs H Q => ∃ (a : Addr) (ks : List Key), vs = [.ref a] ∧ (SqL K H a (ks.map kV) ∨ SqT K H a (ks.map kV)) ∧ ks.length < 64 ∧
  ∀ (p : Addr) (js : List Key), H p = none → js.Nodup → (∀ k, k ∈ js ↔ k ∈ ks) → Q (.ref p) (upd H p (SetO w p (js.map kV)))
theorem cr_setK (hc : X.calm = true) (hu : X.A.units + 60 < cLine) : CallR X (.type "set") (rSetK X.w X.K) := by
  intro pins s σ H vs us Q I rv h
  obtain ⟨a, ks, rfl, hsq, hfew, q⟩ := h
  obtain rfl := Vals.ref1 rv
  have hh : X.A.handled = none := I.ok.hd hc
  have main : ∀ (zs : List (Value × Key)), ks = zs.map (·.2) → (∀ z ∈ zs, keyIs z.2 z.1 = true) → ∀ (h' : Heap) (tk : Nat) (L : List (Value × Key)), KI X.w s.heap.objs.size h' L → Has zs zs.length L → (∀ b o, s.heap.get? b = some o → h'.get? b = some o) →
      EP X pins σ Q (.ref s.heap.objs.size) { s with heap := h', toks := tk } := by
    intro zs ez hz h' tk L ⟨es, ep, t, x, e1, e2⟩ g kp
    have hv : Vals ((L.map (·.2)).map kV) (es.toList.map (·.2)) := by
      have e3 : es.toList.map (·.2) = L.map (·.1) := by rw [e1, List.map_map]; rfl
      rw [e3]
      exact vals_of_keyed L e2
    refine ⟨.ref s.heap.objs.size, _, I.laid kp (Nat.le_refl _) (setO_ok x hv), rfl, q _ _ (I.hok.fresh (Nat.le_refl _)) g.nd fun k => ?_⟩
    rw [ez]
    constructor
    · intro hk
      obtain ⟨p, hp, rfl⟩ := List.mem_map.mp hk
      exact List.mem_map.mpr ⟨p, List.mem_of_mem_take (g.sub p hp), rfl⟩
    · intro hk
      obtain ⟨p, hp, rfl⟩ := List.mem_map.mp hk
      exact g.all p (by rw [List.take_length]; exact hp)
  rcases hsq with hsq | hsq
  · obtain ⟨its, r, pl, hz⟩ := I.list hsq
    obtain ⟨zs, e1, e2, hk⟩ := keyed_of r
    have hl : zs.length < 64 := by rw [e2, List.length_map] at hfew; exact hfew
    refine set_call (fun h' tk => ∃ L, KI X.w s.heap.objs.size h' L ∧ Has zs zs.length L ∧ ∀ b o, s.heap.get? b = some o → h'.get? b = some o) (fun A' s1 E' Q' ha hun e hQ => ?_) fun h' tk ⟨L, x, g, kp⟩ => main zs e2 hk h' tk L x g kp
    subst e
    have pl' : (s.heap.push (new0 X.w)).IsList a its.toArray := pl.isList.push _
    obtain ⟨ol, hol, _⟩ := id pl.isList
    refine upd_list (s := { s with heap := s.heap.push (new0 X.w) }) zs (thK X.prog X.w s.heap.objs.size s.heap) (ha.trans hh) pl' (by simpa using e1) hk hl (by omega) (fresh_thK _ _ _ (Heap.get?_push_size _ rfl)) (Nat.ne_of_gt (Heap.lt_size hol)) (by show _ < (s.heap.push _).objs.size; rw [Heap.size_push]; exact Nat.lt_succ_self _) (none_ge (Nat.le_refl _)) (by show _ ≤ (s.heap.push _).objs.size; rw [Heap.size_push]; exact Nat.le_succ _) (fun b o e => Heap.get?_push_of_some _ e)
      fun h' tk L x g kp => hQ h' tk ⟨L, x, g, kp⟩
  · obtain ⟨its, r, ⟨o, ho, hcl, n, hdt⟩, hz⟩ := I.tuple hsq
    obtain ⟨zs, e1, e2, hk⟩ := keyed_of r
    have hl : zs.length < 64 := by rw [e2, List.length_map] at hfew; exact hfew
    refine set_call (fun h' tk => ∃ L, KI X.w s.heap.objs.size h' L ∧ Has zs zs.length L ∧ ∀ b o, s.heap.get? b = some o → h'.get? b = some o) (fun A' s1 E' Q' ha hun e hQ => ?_) fun h' tk ⟨L, x, g, kp⟩ => main zs e2 hk h' tk L x g kp
    subst e
    refine upd_tuple (s := { s with heap := s.heap.push (new0 X.w) }) zs (thK X.prog X.w s.heap.objs.size s.heap) (ha.trans hh) ⟨o, Heap.get?_push_of_some _ ho, hcl, n, hdt⟩ (by simpa using e1) hk hl (by omega) (fresh_thK _ _ _ (Heap.get?_push_size _ rfl)) (Nat.ne_of_gt (Heap.lt_size ho)) (by show _ < (s.heap.push _).objs.size; rw [Heap.size_push]; exact Nat.lt_succ_self _) (none_ge (Nat.le_refl _)) (by show _ ≤ (s.heap.push _).objs.size; rw [Heap.size_push]; exact Nat.le_succ _) (fun b o e => Heap.get?_push_of_some _ e)
      fun h' tk L x g kp => hQ h' tk ⟨L, x, g, kp⟩
theorem pair_of : ∀ {zs : List (V × PyData)} {us : List Value}, Vals (zs.map (·.1)) us → ∃ ws : List ((V × PyData) × Value), zs = ws.map (·.1) ∧ us = ws.map (·.2) ∧ ∀ z ∈ ws, RelV z.1.1 z.2
  | [], _, .nil => ⟨[], rfl, rfl, fun z h => by cases h⟩
  | z :: zs, _, .cons (b := u) r t => by
    obtain ⟨ws, e1, e2, h⟩ := pair_of t
    refine ⟨(z, u) :: ws, by rw [e1, List.map_cons], by rw [e2, List.map_cons], fun y hy => ?_⟩
    rcases List.mem_cons.mp hy with e | hy
    · rw [e]; exact r
    · exact h y hy
theorem each_of : ∀ {ws : List ((V × PyData) × Value)}, (∀ z ∈ ws, RelV z.1.1 z.2) → PySem.W.EachIs (fun v (b : V × PyData) => RelV b.1 v) (ws.map (·.2)) (ws.map (·.1))
  | [], _ => .nil
  | z :: ws, h => .cons (h z List.mem_cons_self) (each_of fun y hy => h y (List.mem_cons_of_mem _ hy))
theorem vals_each : ∀ {us : List Value} {bs : List (V × PyData)}, PySem.W.EachIs (fun v (b : V × PyData) => RelV b.1 v) us bs → Vals (bs.map (·.1)) us
  | _, _, .nil => .nil
  | _, _, .cons r t => .cons r (vals_each t)
mutual
theorem reads_there {h : Heap} : ∀ {v : Value} {d : PyData} {as : List Addr}, Reads h v d as → ∀ a ∈ as, ∃ o, h.get? a = some o
  | _, _, _, .none, a, ha => by cases ha
  | _, _, _, .bool _, a, ha => by cases ha
  | _, _, _, .int _ _, a, ha => by cases ha
  | _, _, _, .str _ _, a, ha => by cases ha
  | _, _, _, .list ho _ _ r, a, ha => by
    rcases List.mem_cons.mp ha with e | ha
    · rw [e]; exact ⟨_, ho⟩
    · exact readsAll_there r a ha
  | _, _, _, .tuple ho _ _ r, a, ha => readsAll_there r a ha
  | _, _, _, .dict ho _ _ r r2, a, ha => by
    rcases List.mem_append.mp ha with ha | ha
    · rcases List.mem_cons.mp ha with e | ha
      · rw [e]; exact ⟨_, ho⟩
      · exact readsAll_there r a ha
    · exact readsAll_there r2 a ha
theorem readsAll_there {h : Heap} : ∀ {vs : List Value} {ds : List PyData} {as : List Addr}, ReadsAll h vs ds as → ∀ a ∈ as, ∃ o, h.get? a = some o
  | _, _, _, .nil, a, ha => by cases ha
  | _, _, _, .cons r rs, a, ha => by
    rcases List.mem_append.mp ha with ha | ha
    · exact reads_there r a ha
    · exact readsAll_there rs a ha
end
/-- sorted(a set) -/
def rSortO (w : World) (K : PySem.W.Frag) : List V → Hp → VK → Prop := fun vs H Q => ∃ (p : Addr) (zs : List (V × PyData)), vs = [.ref p] ∧ H p = some (SetO w p (zs.map (·.1))) ∧ (∀ z ∈ zs, Dp K H z.1 z.2) ∧
  PySem.W.AllAlike (zs.map (·.2)) ∧ Srt (zs.map (·.2)) ∧ (∀ z ∈ zs, z.2.depth ≤ 100) ∧
  ∀ (q : Addr) (zs' : List (V × PyData)), zs'.Perm zs → H q = none → Q (.ref q) (upd H q (.lst ((zs'.mergeSort (PySem.W.dataLe false (·.2))).map (·.1))))
theorem cr_sortO (hc : X.calm = true) (hu : X.A.units + 120 < cLine) : CallR X (.builtin "sorted") (rSortO X.w X.K) := by
  intro pins s σ H vs us Q I rv h
  obtain ⟨p, zs, rfl, hp, hD, hal, hk, hdp, q⟩ := h
  obtain rfl := Vals.ref1 rv
  obtain ⟨es, ep, t, x, r⟩ := setO_get I hp
  obtain ⟨o, ho, hex, hd⟩ := x.ob
  have hh : X.A.handled = none := I.ok.hd hc
  refine Calls.call_function_entry kind_sorted plain_sorted entry_sorted (args_sorted1 _) ?_
  unfold Builtin.«sorted»
  refine wpAny_bind (m := checkCount "sorted" 1 1 _) (wpAny_pure (wpAny_bind (collect_set (A := X.A.in1) hh ⟨o, ho, hex.1, hd⟩ x.fits x.few x.ris x.led fun s1 out k1 hz g1 o1 pm => ?_)))
  obtain ⟨ws, e1, e2, hw⟩ := pair_of r
  rw [e2] at pm
  obtain ⟨ws', pw, ew⟩ := perm_lift (fun z : (V × PyData) × Value => z.2) pm ws rfl
  have hw' : ∀ z ∈ ws', RelV z.1.1 z.2 := fun z hz => hw z (pw.mem_iff.mp hz)
  have pz : (ws'.map (·.1)).Perm zs := by rw [e1]; exact pw.map _
  have hlen : out.length = ws'.length := by rw [← ew, List.length_map]
  have hfew := x.few
  unfold scanBound at hfew
  have hsz : out.length < 4096 := by
    rw [pm.length_eq, List.length_map]
    have : ws.length = es.size := by have := congrArg List.length e2; simpa using this.symm
    omega
  refine wpAny_bind (wpAny_newList ?_ (by rw [sizeLine_eq]; omega))
  have hoL : (s1.heap.push (seqObj "list" out.toArray 0)).get? s1.heap.objs.size = some (seqObj "list" out.toArray 0) := Heap.get?_push_size _ rfl
  -- the things as they are read in the new heap
  have hrd : ∀ z ∈ ws', ∃ as, Reads (s1.heap.push (seqObj "list" out.toArray 0)) z.2 z.1.2 as ∧ s1.heap.objs.size ∉ as := fun z hz => by
    have hz1 : z.1 ∈ zs := by rw [← pz.mem_iff]; exact List.mem_map.mpr ⟨z, hz, rfl⟩
    obtain ⟨as, ra⟩ := Dp.reads I z.1.2 z.1.1 z.2 (hD _ hz1) (hw' z hz)
    have ra2 := PyProof.Rows.Reads.keeps k1 ra
    exact ⟨as, PyProof.Rows.Reads.keeps (fun b o e => Heap.get?_push_of_some _ e) ra2, fun hm => by
      obtain ⟨o, ho⟩ := reads_there ra2 _ hm
      exact absurd (Heap.lt_size ho) (Nat.lt_irrefl _)⟩
  have e0 : PySem.W.EachIs (fun v (b : V × PyData) => RelV b.1 v) out (ws'.map (·.1)) := by rw [← ew]; exact each_of hw'
  have er : PySem.W.EachIs (fun v (b : V × PyData) => ∃ as, Reads (s1.heap.push (seqObj "list" out.toArray 0)) v b.2 as ∧ s1.heap.objs.size ∉ as) out (ws'.map (·.1)) := by
    rw [← ew]
    have : ∀ l : List ((V × PyData) × Value), (∀ z ∈ l, z ∈ ws') → PySem.W.EachIs (fun v (b : V × PyData) => ∃ as, Reads (s1.heap.push (seqObj "list" out.toArray 0)) v b.2 as ∧ s1.heap.objs.size ∉ as) (l.map (·.2)) (l.map (·.1)) := by
      intro l
      induction l with
      | nil => intro _; exact .nil
      | cons z l ih => intro hl; exact .cons (hrd z (hl z List.mem_cons_self)) (ih fun y hy => hl y (List.mem_cons_of_mem _ hy))
    rw [ew]
    have := this ws' fun _ h => h
    rw [ew] at this
    exact this
  have mz : ∀ d, d ∈ (ws'.map (·.1)).map (fun b : V × PyData => b.2) → d ∈ zs.map (·.2) := fun d hd => (pz.map _).mem_iff.mp hd
  refine wpAny_bind (wpAny_holding (sort_srt (A := X.A.in1) (s := { s1 with heap := s1.heap.push (seqObj "list" out.toArray 0) }) (enc := fun b : V × PyData => b.2) hoL e0 er (fun d hd d' hd' => hal d (mz d hd) d' (mz d' hd')) ?_ (by rw [List.length_map, ← hlen, sizeLine_eq]; omega) (fun b hb => ?_) fun out2 hl2 hE => ?_))
  · rcases hk with (hk | hk) | hk
    · exact .inl (.inl fun d hd => hk d (mz d hd))
    · exact .inl (.inr fun d hd => hk d (mz d hd))
    · exact .inr fun d hd => hk d (mz d hd)
  · have hb2 : b ∈ zs := pz.mem_iff.mp hb
    have := hdp b hb2
    show X.A.units + 1 + 1 + b.2.depth < cLine
    omega
  · obtain ⟨c, hcc⟩ := sortedHeap_at (vs := out) (out := out2.toArray) hoL
    have hval := vals_each hE
    have kp : ∀ b u, s.heap.get? b = some u → (sortedHeap (s1.heap.push (seqObj "list" out.toArray 0)) s1.heap.objs.size out out2.toArray).get? b = some u := fun b u e => by
      have qq := k1 b u e
      have hlt := Heap.lt_size qq
      rw [sortedHeap_old (Nat.ne_of_lt hlt) (by rw [size_push']; exact Nat.lt_succ_of_lt hlt)]
      exact Heap.get?_push_of_some _ qq
    have hlen3 : ((ws'.map (·.1)).mergeSort (PySem.W.dataLe false fun b : V × PyData => b.2)).length ≤ sizeLine := by
      rw [List.length_mergeSort, List.length_map, ← hlen, sizeLine_eq]; omega
    refine wpAny_pure ⟨_, rfl, ?_⟩
    refine ⟨.ref s1.heap.objs.size, upd H s1.heap.objs.size (.lst (((ws'.map (·.1)).mergeSort (PySem.W.dataLe false fun b : V × PyData => b.2)).map (·.1))), ?_, rfl, q _ _ pz (I.hok.fresh hz)⟩
    refine I.call' (ch := []) o1 (Un.laid kp hz (I.hok.fresh hz)) (I.hok.laid kp hz ⟨by rw [List.length_map]; exact hlen3, out2, c, hval, hcc⟩) ?_ (fun b hb => by cases hb)
    show AllBare s1.gens
    rw [g1]; exact I.bare
end
end DX
namespace DL
open PySem PySem.Spec L2
variable {G : Type}
section
variable {K : PySem.W.Frag} {W : Wd G} {P₀ H₀ P H : Hp} {O : Addr → Option Tag} {σ : L2.St} {st st' : Sl} {τ : List V} {ts : List S} {g : G} {v : V} {d : D} {p : Addr}
theorem RelB.ofSh (R : RelB K W P₀ H₀ P O σ st τ ts H g) (h : Rep K W P d v) : Rel K W P₀ H₀ σ st (v :: τ) (.sh d :: ts) H g := ⟨P, O, R.push h⟩
theorem RelB.pnone (R : RelB K W P₀ H₀ P O σ st τ ts H g) (hp : H p = none) : P p = none := by
  cases e : P p with
  | none => rfl
  | some u => have := R.sub _ _ e; rw [hp] at this; cases this
theorem RelB.newTup {ds : List D} {xs : List V} {ob : Obj} (R : RelB K W P₀ H₀ P O σ st τ ts H g) (hp : H p = none) (hd : ob.dict = none) (rs : Reps K W P ds xs) (hz : ds.length ≤ sizeLine) : Rel K W P₀ H₀ σ st (.ref p :: τ) (.sh (.tup ds) :: ts) (upd H p (.frz ob (.tup xs))) g := by
  have pn := R.pnone hp
  refine ⟨_, O, (R.laid hp).push ?_⟩
  simp only [Rep]
  exact ⟨p, xs, rfl, .new upd_same hd, hz, Reps.mono (fun a u z => by rw [upd_ne (ne_of_none z pn)]; exact z) _ _ rs⟩
theorem RelB.newLst {ds : List D} {xs : List V} (R : RelB K W P₀ H₀ P O σ st τ ts H g) (hp : H p = none) (rs : Reps K W P ds xs) (hz : ds.length ≤ sizeLine) : Rel K W P₀ H₀ σ st (.ref p :: τ) (.ow (.lst ds) :: ts) (upd H p (.lst xs)) g := by
  obtain ⟨O', R2⟩ := R.laidOwn (d := .lst ds) hp ⟨xs, rfl, hz, rs⟩
  exact ⟨P, O', R2⟩
/-- a thing is laid that nobody looks at again -/
theorem RelB.waste {o : HO} (R : RelB K W P₀ H₀ P O σ st τ ts H g) (hp : H p = none) : RelB K W P₀ H₀ P O σ st τ ts (upd H p o) g := by
  have nf : ¬ W.fp p := fun h => W.there g H p R.wld h hp
  have sH : Sub H (upd H p o) := fun a u e => by rw [upd_ne (ne_of_none e hp)]; exact e
  refine { R with sub := R.sub.trans sH, base := fun a u e n => sH _ _ (R.base a u e n), own := fun a t e => ?_, wld := W.loc g H _ R.wld (fun a h => upd_ne fun q => nf (q ▸ h)) (keep_new hp), slots := fun i s e => ?_, temps := R.temps.mono (Sub.refl P) (fun _ _ _ q => q) (fun a o _ _ _ q => sH _ _ q) }
  · obtain ⟨h1, h2, h3, h4⟩ := R.own a t e
    exact ⟨h1, h2, h3, by rw [upd_ne (show a ≠ p from fun q => h4 (q ▸ hp))]; exact h4⟩
  · obtain ⟨v, e1, e2, q⟩ := R.slots i s e
    exact ⟨v, e1, e2, q.mono (Sub.refl P) (fun _ q => q) (fun a o _ q => sH _ _ q)⟩
@[simp] theorem rep_int {i : Int} : Rep K W P (.int i) v ↔ v = .int i := by simp only [Rep]
@[simp] theorem rep_str {x : Str} : Rep K W P (.str x) v ↔ v = .str x := by simp only [Rep]
@[simp] theorem rep_blk {b : Bool} : Rep K W P (.bl b) v ↔ v = .bl b := by simp only [Rep]
@[simp] theorem rep_non : Rep K W P .non v ↔ v = .non := by simp only [Rep]
@[simp] theorem rd1_int {i : Int} : Rd1 K W P H (.int i) v ↔ v = .int i := by simp only [Rd1, Rep]
@[simp] theorem rd1_str {x : Str} : Rd1 K W P H (.str x) v ↔ v = .str x := by simp only [Rd1, Rep]
@[simp] theorem rd1_bl {b : Bool} : Rd1 K W P H (.bl b) v ↔ v = .bl b := by simp only [Rd1, Rep]
@[simp] theorem rd1_non : Rd1 K W P H .non v ↔ v = .non := by simp only [Rd1, Rep]
theorem rd1_tup {ds : List D} : Rd1 K W P H (.tup ds) v ↔ ∃ a xs, v = .ref a ∧ DY.TupP K P a xs ∧ ds.length ≤ sizeLine ∧ Reps K W P ds xs := by simp only [Rd1, Rep]
theorem rd1_lst {ds : List D} : Rd1 K W P H (.lst ds) v ↔ ∃ a xs, v = .ref a ∧ H a = some (.lst xs) ∧ ds.length ≤ sizeLine ∧ Reps K W P ds xs := by simp only [Rd1]
end
/-! ### + - * // % ** -/
def opAdd : D → D → Option S
  | .int a, .int b => some (.sh (.int (a + b)))
  | .str a, .str b => if a.length + b.length ≤ sizeLine then some (.sh (.str (a ++ b))) else none
  | .tup a, .tup b => if a.length + b.length ≤ sizeLine then some (.sh (.tup (a ++ b))) else none
  | .lst a, .lst b => if a.length + b.length ≤ sizeLine then some (.ow (.lst (a ++ b))) else none
  | _, _ => none
def rAddD (K : PySem.W.Frag) : R2 := fun x y H Q => rI0 (fun i j => .int (i + j)) x y H Q ∨ (∃ i j, x = .str i ∧ y = .str j ∧ i.length + j.length ≤ sizeLine ∧ Q (.str (i ++ j)) H) ∨ DY.rCatF K x y H Q ∨ rCat x y H Q
theorem b_add {K : PySem.W.Frag} {W : Wd G} : B2 K W (rAddD K) opAdd := by
  intro P₀ H₀ P O σ st τ ts H g x y dx dy z Q R rx ry h q
  cases dx with
  | int a =>
    cases dy with
    | int b =>
      simp only [opAdd, Option.some.injEq] at h; subst h
      rw [rd1_int] at rx ry
      exact .inl ⟨a, b, rx, ry, q _ _ (R.ofSh (by simp))⟩
    | _ => cases h
  | str a =>
    cases dy with
    | str b =>
      simp only [opAdd] at h
      split at h
      · rename_i hz
        simp only [Option.some.injEq] at h; subst h
        rw [rd1_str] at rx ry
        exact .inr (.inl ⟨a, b, rx, ry, hz, q _ _ (R.ofSh (by simp))⟩)
      · cases h
    | _ => cases h
  | tup a =>
    cases dy with
    | tup b =>
      simp only [opAdd] at h
      split at h
      · rename_i hz
        simp only [Option.some.injEq] at h; subst h
        have r1 : Rep K W P (.tup a) x := rx
        have r2 : Rep K W P (.tup b) y := ry
        obtain ⟨pa, xs, ex, sx, zx, rsx⟩ := rd1_tup.mp rx
        obtain ⟨pb, ys, ey, sy, zy, rsy⟩ := rd1_tup.mp ry
        subst ex ey
        refine .inr (.inr (.inl ⟨pa, pb, xs, ys, rfl, rfl, R.sub.sqT sx.sq, R.sub.sqT sy.sq, by rw [rsx.length, rsy.length]; exact hz, fun e => ?_, fun _ e => ?_, fun _ _ p ob hp hd => q _ _ (R.newTup hp hd (rsx.append rsy) (by simpa using hz))⟩))
        · have : a = [] := by have := rsx.length; rw [e] at this; exact List.length_eq_zero_iff.mp this.symm
          subst this
          exact q _ _ (R.ofSh r2)
        · have : b = [] := by have := rsy.length; rw [e] at this; exact List.length_eq_zero_iff.mp this.symm
          subst this
          exact q _ _ (R.ofSh (by rw [List.append_nil]; exact r1))
      · cases h
    | _ => cases h
  | lst a =>
    cases dy with
    | lst b =>
      simp only [opAdd] at h
      split at h
      · rename_i hz
        simp only [Option.some.injEq] at h; subst h
        obtain ⟨pa, xs, ex, sx, zx, rsx⟩ := rd1_lst.mp rx
        obtain ⟨pb, ys, ey, sy, zy, rsy⟩ := rd1_lst.mp ry
        subst ex ey
        exact .inr (.inr (.inr ⟨pa, pb, xs, ys, rfl, rfl, sx, sy, by rw [rsx.length, rsy.length]; exact hz, fun p hp => q _ _ (R.newLst hp (rsx.append rsy) (by simpa using hz))⟩))
      · cases h
    | _ => cases h
  | _ => cases h
section
variable {C : CF} {Fam : Wd G → Prop} {a b : Expr} {fa fb : M G S} {pos : Pos}
theorem d_add (ha : DE C Fam a fa) (hb : DE C Fam b fb) : DE C Fam (.BinOp a .Add b pos) (mOp opAdd fa fb) :=
  d_op (fun j => op_add.or (op_add_str.or ((by rw [← C.hK j]; exact DY.op_catF : OpR (C.X j) (binaryOp .Add) (DY.rCatF C.K)).or op_cat))) (fun _ _ => b_add) ha hb
end
/-- operators of two ints -/
def opI2 (c : Int → Int → Bool) (f : Int → Int → D) : D → D → Option S
  | .int a, .int b => if c a b = true then some (.sh (f a b)) else none
  | _, _ => none
theorem b_i2 {K : PySem.W.Frag} {W : Wd G} {c : Int → Int → Bool} {f : Int → Int → D} {r : R2} {k : Int → Int → V} (hk : ∀ a b P, Rep K W P (f a b) (k a b)) (hr : ∀ a b H (Q : VK), c a b = true → Q (k a b) H → r (.int a) (.int b) H Q) : B2 K W r (opI2 c f) := by
  intro P₀ H₀ P O σ st τ ts H g x y dx dy z Q R rx ry h q
  cases dx with
  | int a =>
    cases dy with
    | int b =>
      simp only [opI2] at h
      split at h
      · rename_i hc
        simp only [Option.some.injEq] at h; subst h
        rw [rd1_int] at rx ry; subst rx ry
        exact hr a b H Q hc (q _ _ (R.ofSh (hk a b P)))
      · cases h
    | _ => cases h
  | _ => cases h
abbrev opSub : D → D → Option S := opI2 (fun _ _ => true) fun a b => .int (a - b)
def okMul (i j : Int) : Bool := decide (i.natAbs.log2 + j.natAbs.log2 < 1000000)
def opMul : D → D → Option S
  | .int a, .int b => if okMul a b = true then some (.sh (.int (a * b))) else none
  | .lst a, .int k => if -(2 ^ 63) ≤ k ∧ k < 2 ^ 63 ∧ a.length * k.toNat ≤ sizeLine then some (.ow (.lst (List.replicate k.toNat a).flatten)) else none
  | _, _ => none
def okDiv (i j : Int) : Bool := decide (0 < j ∧ j.natAbs.log2 < 9000)
abbrev opFdiv : D → D → Option S := opI2 okDiv fun a b => .int (a / b)
abbrev opMod : D → D → Option S := opI2 (fun _ b => decide (0 < b)) fun a b => .int (a % b)
def okPow (i j : Int) : Bool := decide (0 ≤ j ∧ j ≤ 1000000 ∧ i.natAbs < 2 ^ 64)
abbrev opPow : D → D → Option S := opI2 okPow fun a b => .int (a ^ b.toNat)
theorem Reps.rep {K : PySem.W.Frag} {W : Wd G} {P : Hp} {ds : List D} {xs : List V} (h : Reps K W P ds xs) : ∀ n : Nat, Reps K W P (List.replicate n ds).flatten (List.replicate n xs).flatten
  | 0 => by simp [Reps]
  | n + 1 => by rw [List.replicate_succ, List.replicate_succ, List.flatten_cons, List.flatten_cons]; exact h.append (Reps.rep h n)
theorem b_mul {K : PySem.W.Frag} {W : Wd G} : B2 K W (fun x y H Q => rI CMulW (fun i j => .int (i * j)) x y H Q ∨ rRep x y H Q) opMul := by
  intro P₀ H₀ P O σ st τ ts H g x y dx dy z Q R rx ry h q
  cases dx with
  | int a =>
    cases dy with
    | int b =>
      simp only [opMul] at h
      split at h
      · rename_i hc
        simp only [Option.some.injEq] at h; subst h
        rw [rd1_int] at rx ry; subst rx ry
        exact .inl ⟨a, b, rfl, rfl, (show CMulW a b from (by simpa [okMul] using hc : a.natAbs.log2 + b.natAbs.log2 < 1000000)), q _ _ (R.ofSh (by simp))⟩
      · cases h
    | _ => cases h
  | lst a =>
    cases dy with
    | int k =>
      simp only [opMul] at h
      split at h
      · rename_i hc
        simp only [Option.some.injEq] at h; subst h
        rw [rd1_int] at ry; subst ry
        obtain ⟨pa, xs, ex, sx, zx, rsx⟩ := rd1_lst.mp rx
        subst ex
        exact .inr ⟨pa, k, xs, rfl, rfl, sx, hc.1, hc.2.1, by rw [rsx.length]; exact hc.2.2, fun p hp => q _ _ (R.newLst hp (rsx.rep _) (by simp; rw [Nat.mul_comm]; exact hc.2.2))⟩
      · cases h
    | _ => cases h
  | _ => cases h
section
variable {C : CF} {Fam : Wd G → Prop} {a b : Expr} {fa fb : M G S} {pos : Pos}
theorem d_sub (ha : DE C Fam a fa) (hb : DE C Fam b fb) : DE C Fam (.BinOp a .Sub b pos) (mOp opSub fa fb) :=
  d_op (fun j => op_sub) (fun _ _ => b_i2 (k := fun a b => .int (a - b)) (fun a b P => by simp) fun a b H Q _ q => ⟨a, b, rfl, rfl, q⟩) ha hb
theorem d_mul (ha : DE C Fam a fa) (hb : DE C Fam b fb) : DE C Fam (.BinOp a .Mult b pos) (mOp opMul fa fb) :=
  d_op (fun j => op_mulW.or op_rep) (fun _ _ => b_mul) ha hb
theorem d_fdiv (ha : DE C Fam a fa) (hb : DE C Fam b fb) : DE C Fam (.BinOp a .FloorDiv b pos) (mOp opFdiv fa fb) :=
  d_op (fun j => op_fdivW) (fun _ _ => b_i2 (k := fun a b => .int (a / b)) (fun a b P => by simp) fun a b H Q h q => ⟨a, b, rfl, rfl, (show CDivW a b from (by simpa [okDiv] using h : 0 < b ∧ b.natAbs.log2 < 9000)), q⟩) ha hb
theorem d_mod (ha : DE C Fam a fa) (hb : DE C Fam b fb) : DE C Fam (.BinOp a .Mod b pos) (mOp opMod fa fb) :=
  d_op (fun j => op_mod) (fun _ _ => b_i2 (k := fun a b => .int (a % b)) (fun a b P => by simp) fun a b H Q h q => ⟨a, b, rfl, rfl, of_decide_eq_true h, q⟩) ha hb
theorem d_pow (ha : DE C Fam a fa) (hb : DE C Fam b fb) : DE C Fam (.BinOp a .Pow b pos) (mOp opPow fa fb) :=
  d_op (fun j => op_pow) (fun _ _ => b_i2 (k := fun a b => .int (a ^ b.toNat)) (fun a b P => by simp) fun a b H Q h q => ⟨a, b, rfl, rfl, (show CPow a b from (by simpa [okPow] using h : 0 ≤ b ∧ b ≤ 1000000 ∧ a.natAbs < 2 ^ 64)), q⟩) ha hb
def opNeg : D → Option S
  | .int a => some (.sh (.int (-a)))
  | _ => none
theorem d_neg (ha : DE C Fam a fa) : DE C Fam (.UnaryOp .USub a pos) (mUn opNeg fa) :=
  d_un (fun j => un_neg) (fun W _ P₀ H₀ P O σ st τ ts H g x dx z Q R rx h q => by
    cases dx with
    | int a =>
      simp only [opNeg, Option.some.injEq] at h; subst h
      rw [rd1_int] at rx
      exact ⟨a, rx, q _ _ (R.ofSh (by simp))⟩
    | _ => cases h) ha
end
/-! ### data: ==, <, in -/
mutual
def D.py : D → PyData
  | .non => .none
  | .bl b => .bool b
  | .int i => .int i
  | .str x => .str x
  | .tup xs => .tuple (D.pys xs)
  | .lst xs => .list (D.pys xs)
  | .dct _ => .none
  | .dcn _ => .none
  | .obj _ => .none
def D.pys : List D → List PyData
  | [] => []
  | d :: ds => d.py :: D.pys ds
end
mutual
/-- no dict, no object within -/
def D.pl : D → Bool
  | .non => true
  | .bl _ => true
  | .int _ => true
  | .str _ => true
  | .tup xs => D.pls xs
  | .lst xs => D.pls xs
  | .dct _ => false
  | .dcn _ => false
  | .obj _ => false
def D.pls : List D → Bool
  | [] => true
  | d :: ds => d.pl && D.pls ds
end
mutual
theorem Rep.dp {K : PySem.W.Frag} {W : Wd G} {P H : Hp} (s : Sub P H) : ∀ (d : D) (v : V), d.pl = true → Rep K W P d v → Dp K H v d.py
  | .non, v, _, h => by rw [rep_non] at h; subst h; simp only [D.py]; exact .non
  | .bl b, v, _, h => by rw [rep_blk] at h; subst h; simp only [D.py]; exact .bl b
  | .int i, v, _, h => by rw [rep_int] at h; subst h; simp only [D.py]; exact .int i
  | .str x, v, _, h => by rw [rep_str] at h; subst h; simp only [D.py]; exact .str x
  | .tup ds, v, hp, h => by
    simp only [Rep] at h
    obtain ⟨a, xs, rfl, sq, _, r⟩ := h
    simp only [D.pl] at hp
    simp only [D.py]
    exact .tup (s.sqT sq.sq) (Reps.dp s ds xs hp r)
  | .lst ds, v, hp, h => by
    simp only [Rep] at h
    obtain ⟨a, xs, rfl, sq, _, r⟩ := h
    simp only [D.pl] at hp
    simp only [D.py]
    exact .lst (SqL.of (s _ _ sq)) (Reps.dp s ds xs hp r)
  | .dct _, v, hp, h => by simp [D.pl] at hp
  | .dcn _, v, hp, h => by simp [D.pl] at hp
  | .obj _, v, hp, h => by simp [D.pl] at hp
theorem Reps.dp {K : PySem.W.Frag} {W : Wd G} {P H : Hp} (s : Sub P H) : ∀ (ds : List D) (vs : List V), D.pls ds = true → Reps K W P ds vs → DpAll K H vs (D.pys ds)
  | [], vs, _, h => by simp only [Reps] at h; subst h; simp only [D.pys]; exact .nil
  | d :: ds, vs, hp, h => by
    simp only [Reps] at h
    obtain ⟨v, r, rfl, h1, h2⟩ := h
    simp only [D.pls, Bool.and_eq_true] at hp
    simp only [D.pys]
    exact .cons (Rep.dp s d v hp.1 h1) (Reps.dp s ds r hp.2 h2)
end
theorem Rd1.dp {K : PySem.W.Frag} {W : Wd G} {P H : Hp} (s : Sub P H) {d : D} {v : V} (hp : d.pl = true) (h : Rd1 K W P H d v) : Dp K H v d.py := by
  cases d with
  | lst ds =>
    obtain ⟨a, xs, rfl, sq, _, r⟩ := h
    simp only [D.pl] at hp
    simp only [D.py]
    exact .lst (SqL.of sq) (Reps.dp s ds xs hp r)
  | dct _ => simp [D.pl] at hp
  | dcn _ => simp [D.pl] at hp
  | _ => exact Rep.dp (W := W) s _ _ hp h
mutual
theorem D.plain_of : ∀ d : D, d.pl = true → d.py.plain = true
  | .non, _ => rfl
  | .bl _, _ => rfl
  | .int _, _ => rfl
  | .str _, _ => rfl
  | .tup ds, h => by simp only [D.pl] at h; simp only [D.py, PyData.plain]; exact D.plains_of ds h
  | .lst ds, h => by simp only [D.pl] at h; simp only [D.py, PyData.plain]; exact D.plains_of ds h
  | .dct _, h => by simp [D.pl] at h
  | .dcn _, h => by simp [D.pl] at h
  | .obj _, h => by simp [D.pl] at h
theorem D.plains_of : ∀ ds : List D, D.pls ds = true → PyData.plainAll (D.pys ds) = true
  | [], _ => rfl
  | d :: ds, h => by
    simp only [D.pls, Bool.and_eq_true] at h
    simp only [D.pys, PyData.plainAll, Bool.and_eq_true]
    exact ⟨D.plain_of d h.1, D.plains_of ds h.2⟩
end
def eqD (a b : D) : Bool := PyData.eqv a.py b.py
def okEq (a b : D) : Bool := a.pl && b.pl && decide (min a.py.depth b.py.depth ≤ 100)
def opEq (a b : D) : Option S := if okEq a b = true then some (.sh (.bl (eqD a b))) else none
def opNe (a b : D) : Option S := if okEq a b = true then some (.sh (.bl (!eqD a b))) else none
def rEqP (K : PySem.W.Frag) (neg : Bool) : R2 := fun x y H Q => ∃ d e, Dp K H x d ∧ Dp K H y e ∧ d.plain = true ∧ e.plain = true ∧ min d.depth e.depth ≤ 100 ∧ Q (.bl (if neg then !PyData.eqv d e else PyData.eqv d e)) H
section
variable {X : Cx}
theorem op_eqP (hu : X.A.units + 150 < cLine) : OpR X (compareOp .Eq) (rEqP X.K false) := by
  intro pins s σ H x y v u Q I rx ry h
  obtain ⟨d, e, hd, he, pd, pe, hz, q⟩ := h
  obtain ⟨as, r1⟩ := Dp.reads I d x v hd rx
  obtain ⟨bs, r2⟩ := Dp.reads I e y u he ry
  exact SeqAt.eq_plain r1 r2 pd pe (by omega) ⟨.bl _, H, I, rfl, q⟩
theorem op_neP (hu : X.A.units + 150 < cLine) : OpR X (compareOp .NotEq) (rEqP X.K true) := by
  intro pins s σ H x y v u Q I rx ry h
  obtain ⟨d, e, hd, he, pd, pe, hz, q⟩ := h
  obtain ⟨as, r1⟩ := Dp.reads I d x v hd rx
  obtain ⟨bs, r2⟩ := Dp.reads I e y u he ry
  exact SeqAt.ne_plain r1 r2 pd pe (by omega) ⟨.bl _, H, I, rfl, q⟩
/-- < <= > >= -/
def cmpD : CmpOp → PyData → PyData → Bool
  | .Lt, a, b => PySem.W.dataLt a b
  | .Gt, a, b => PySem.W.dataLt b a
  | .LtE, a, b => !PySem.W.dataLt b a
  | .GtE, a, b => !PySem.W.dataLt a b
  | _, _, _ => false
def rCmpP (K : PySem.W.Frag) (op : CmpOp) : R2 := fun x y H Q => ∃ d e, Dp K H x d ∧ Dp K H y e ∧ PySem.W.alike d e = true ∧ d ≠ .none ∧ min d.depth e.depth ≤ 100 ∧ Q (.bl (cmpD op d e)) H
theorem op_cmpP {op : CmpOp} (ho : op = .Lt ∨ op = .Gt ∨ op = .LtE ∨ op = .GtE) (hu : X.A.units + 150 < cLine) : OpR X (compareOp op) (rCmpP X.K op) := by
  intro pins s σ H x y v u Q I rx ry h
  obtain ⟨d, e, hd, he, al, nn, hz, q⟩ := h
  obtain ⟨as, r1⟩ := Dp.reads I d x v hd rx
  obtain ⟨bs, r2⟩ := Dp.reads I e y u he ry
  rcases ho with rfl | rfl | rfl | rfl
  · exact PySem.W.lt_data r1 r2 al nn (by omega) ⟨.bl _, H, I, rfl, q⟩
  · exact PySem.W.gt_data r1 r2 al nn (by omega) ⟨.bl _, H, I, rfl, q⟩
  · exact PySem.W.le_data r1 r2 al nn (by omega) ⟨.bl _, H, I, rfl, q⟩
  · exact PySem.W.ge_data r1 r2 al nn (by omega) ⟨.bl _, H, I, rfl, q⟩
end
def okCmp (a b : D) : Bool := a.pl && b.pl && PySem.W.alike a.py b.py && decide (min a.py.depth b.py.depth ≤ 100) && (match a with | .non => false | _ => true)
def opCmp (op : CmpOp) (a b : D) : Option S := if okCmp a b = true then some (.sh (.bl (cmpD op a.py b.py))) else none
theorem b_eq {K : PySem.W.Frag} {W : Wd G} : B2 K W (rEqP K false) opEq := by
  intro P₀ H₀ P O σ st τ ts H g x y dx dy z Q R rx ry h q
  unfold opEq at h
  split at h
  · rename_i hc
    simp only [Option.some.injEq] at h; subst h
    simp only [okEq, Bool.and_eq_true, decide_eq_true_eq] at hc
    exact ⟨_, _, rx.dp R.sub hc.1.1, ry.dp R.sub hc.1.2, D.plain_of _ hc.1.1, D.plain_of _ hc.1.2, hc.2, q _ _ (R.ofSh (by simp [eqD]))⟩
  · cases h
theorem b_ne {K : PySem.W.Frag} {W : Wd G} : B2 K W (rEqP K true) opNe := by
  intro P₀ H₀ P O σ st τ ts H g x y dx dy z Q R rx ry h q
  unfold opNe at h
  split at h
  · rename_i hc
    simp only [Option.some.injEq] at h; subst h
    simp only [okEq, Bool.and_eq_true, decide_eq_true_eq] at hc
    exact ⟨_, _, rx.dp R.sub hc.1.1, ry.dp R.sub hc.1.2, D.plain_of _ hc.1.1, D.plain_of _ hc.1.2, hc.2, q _ _ (R.ofSh (by simp [eqD]))⟩
  · cases h
theorem b_cmp {K : PySem.W.Frag} {W : Wd G} {op : CmpOp} : B2 K W (rCmpP K op) (opCmp op) := by
  intro P₀ H₀ P O σ st τ ts H g x y dx dy z Q R rx ry h q
  unfold opCmp at h
  split at h
  · rename_i hc
    simp only [Option.some.injEq] at h; subst h
    simp only [okCmp, Bool.and_eq_true, decide_eq_true_eq] at hc
    refine ⟨_, _, rx.dp R.sub hc.1.1.1.1, ry.dp R.sub hc.1.1.1.2, hc.1.1.2, fun e => ?_, hc.1.2, q _ _ (R.ofSh (by simp))⟩
    have h1 := hc.2
    have h2 := hc.1.1.1.1
    cases dx <;> simp [D.py, D.pl] at e h1 h2
  · cases h
end DL
namespace DL
open PySem PySem.Spec L2
variable {G : Type}
/-! ### comparisons -/
section
variable {C : CF} {Fam : Wd G → Prop} {a b c : Expr} {fa fb fc : M G S} {pos : Pos}
theorem CF.eqP (C : CF) (j : C.ι) : OpR (C.X j) (compareOp .Eq) (rEqP C.K false) := by rw [← C.hK j]; exact op_eqP (by have := C.un j; omega)
theorem CF.neP (C : CF) (j : C.ι) : OpR (C.X j) (compareOp .NotEq) (rEqP C.K true) := by rw [← C.hK j]; exact op_neP (by have := C.un j; omega)
theorem CF.cmpP (C : CF) (j : C.ι) {op : CmpOp} (ho : op = .Lt ∨ op = .Gt ∨ op = .LtE ∨ op = .GtE) : OpR (C.X j) (compareOp op) (rCmpP C.K op) := by rw [← C.hK j]; exact op_cmpP ho (by have := C.un j; omega)
theorem d_eq (ha : DE C Fam a fa) (hb : DE C Fam b fb) : DE C Fam (.Compare a [.Eq] [b] pos) (mOp opEq fa fb) := d_cmp C.eqP (fun _ _ => b_eq) ha hb
theorem t_eq (ha : DE C Fam a fa) (hb : DE C Fam b fb) : DT C Fam (.Compare a [.Eq] [b] pos) (mTest (mOp opEq fa fb)) := d_tcmp C.eqP (fun _ _ => b_eq) ha hb
theorem t_ne (ha : DE C Fam a fa) (hb : DE C Fam b fb) : DT C Fam (.Compare a [.NotEq] [b] pos) (mTest (mOp opNe fa fb)) := d_tcmp C.neP (fun _ _ => b_ne) ha hb
theorem t_ord {op : CmpOp} (ho : op = .Lt ∨ op = .Gt ∨ op = .LtE ∨ op = .GtE) (ha : DE C Fam a fa) (hb : DE C Fam b fb) : DT C Fam (.Compare a [op] [b] pos) (mTest (mOp (opCmp op) fa fb)) :=
  d_tcmp (fun j => C.cmpP j ho) (fun _ _ => b_cmp) ha hb (by rcases ho with rfl | rfl | rfl | rfl <;> exact nobehind _ (by decide) (by decide))
abbrev oLt : CmpOp.Lt = .Lt ∨ CmpOp.Lt = .Gt ∨ CmpOp.Lt = .LtE ∨ CmpOp.Lt = .GtE := .inl rfl
abbrev oGt : CmpOp.Gt = .Lt ∨ CmpOp.Gt = .Gt ∨ CmpOp.Gt = .LtE ∨ CmpOp.Gt = .GtE := .inr (.inl rfl)
abbrev oLe : CmpOp.LtE = .Lt ∨ CmpOp.LtE = .Gt ∨ CmpOp.LtE = .LtE ∨ CmpOp.LtE = .GtE := .inr (.inr (.inl rfl))
abbrev oGe : CmpOp.GtE = .Lt ∨ CmpOp.GtE = .Gt ∨ CmpOp.GtE = .LtE ∨ CmpOp.GtE = .GtE := .inr (.inr (.inr rfl))
/-! a < b < c -/
def mChain (f f' : D → D → Option S) (fa fb fc : M G S) : M G S := fun st g =>
  bnd (fa st g) fun x st g => bnd (fb st g) fun y st g => (peek x st).bind fun dx => (peek y st).bind fun dy => (f dx dy).bind fun z =>
    match z with
    | .sh (.bl true) => bnd (fc st g) fun w st g => (peek y st).bind fun dy => (peek w st).bind fun dw => (f' dy dw).map fun z => (z, st, g)
    | .sh (.bl false) => some (.sh (.bl false), st, g)
    | _ => none
theorem ev_chain {K : PySem.W.Frag} {W : Wd G} {ta tb tc : TE} {fa fb fc : M G S} {r r' : R2} {f f' : D → D → Option S} (ha : EvE K W ta fa) (hb : EvE K W tb fb) (hc : EvE K W tc fc) (ho : B2 K W r f) (ho' : B2 K W r' f') : EvE K W (tChain r r' ta tb tc) (mChain f f' fa fb fc) := by
  intro P₀ H₀ σ st τ ts H g z st' g' Q R h q
  obtain ⟨x, st1, g1, e1, h⟩ := bnd_eq h
  obtain ⟨y, st2, g2, e2, h⟩ := bnd_eq h
  obtain ⟨dx, e3, h⟩ := Option.bind_eq_some_iff.mp h
  obtain ⟨dy, e4, h⟩ := Option.bind_eq_some_iff.mp h
  obtain ⟨z1, e5, h⟩ := Option.bind_eq_some_iff.mp h
  refine ha _ _ _ _ _ _ _ _ _ _ _ _ R e1 fun v1 H1 R1 => ?_
  refine hb _ _ _ _ _ _ _ _ _ _ _ _ R1 e2 fun v2 H2 R2 => ?_
  obtain ⟨P, O, R2⟩ := R2
  refine ho _ _ _ _ _ _ _ _ _ _ _ _ _ _ _ _ R2 (R2.pop.peekV e3) (R2.peekV e4) e5 fun v H3 R3 => ?_
  cases z1 with
  | sh d =>
    cases d with
    | bl k =>
      obtain ⟨P3, O3, R3⟩ := R3
      have ev : v = .bl k := rep_bl (K := K) (W := W) (P := P3) R3.temps.1
      refine ⟨k, ev, ?_⟩
      cases k with
      | true =>
        rw [if_pos rfl]
        simp only at h
        obtain ⟨w, st4, g4, e6, h⟩ := bnd_eq h
        obtain ⟨dy', e7, h⟩ := Option.bind_eq_some_iff.mp h
        obtain ⟨dw, e8, h⟩ := Option.bind_eq_some_iff.mp h
        obtain ⟨z', e9, h⟩ := Option.map_eq_some_iff.mp h
        simp only [Prod.mk.injEq] at h; obtain ⟨rfl, rfl, rfl⟩ := h
        refine hc _ _ _ _ _ _ _ _ _ _ _ _ ⟨P3, O3, R3.pop⟩ e6 fun v4 H4 R4 => ?_
        obtain ⟨P4, O4, R4⟩ := R4
        exact ho' _ _ _ _ _ _ _ _ _ _ _ _ _ _ _ _ R4.pop.pop.pop (R4.pop.peekV e7) (R4.peekV e8) e9 q
      | false =>
        rw [if_neg (by simp)]
        simp only [Option.some.injEq, Prod.mk.injEq] at h; obtain ⟨rfl, rfl, rfl⟩ := h
        exact q _ _ ⟨P3, O3, R3.pop.pop.pop.push (by simp)⟩
    | _ => cases h
  | _ => cases h
theorem d_chain {op op' : CmpOp} {r r' : R2} {f f' : D → D → Option S} (ho : ∀ j, OpR (C.X j) (compareOp op) r) (ho' : ∀ j, OpR (C.X j) (compareOp op') r') (hf : ∀ W, Fam W → B2 C.K W r f) (hf' : ∀ W, Fam W → B2 C.K W r' f') (ha : DE C Fam a fa) (hb : DE C Fam b fb) (hc : DE C Fam c fc)
    (hm : lastMarks [op, op'] [b, c] = false := by with_unfolding_all rfl) : DE C Fam (.Compare a [op, op'] [b, c] pos) (mChain f f' fa fb fc) := by
  obtain ⟨ta, pa, ea⟩ := ha.ex
  obtain ⟨tb, pb, eb⟩ := hb.ex
  obtain ⟨tc, pc, ec⟩ := hc.ex
  exact ⟨_, fun j => pe_chain (ho j) (ho' j) (pa j) (pb j) (pc j) hm, fun W h => ev_chain (ea W h) (eb W h) (ec W h) (hf W h) (hf' W h)⟩
theorem d_leLe (ha : DE C Fam a fa) (hb : DE C Fam b fb) (hc : DE C Fam c fc) (hm : lastMarks [.LtE, .LtE] [b, c] = false := by with_unfolding_all rfl) : DE C Fam (.Compare a [.LtE, .LtE] [b, c] pos) (mChain (opCmp .LtE) (opCmp .LtE) fa fb fc) :=
  d_chain (fun j => C.cmpP j oLe) (fun j => C.cmpP j oLe) (fun _ _ => b_cmp) (fun _ _ => b_cmp) ha hb hc hm
end
/-! ### dicts with ints and texts for keys -/
def keyD : D → Option Key
  | .int i => some (.inl i)
  | .str x => some (.inr x)
  | _ => none
theorem keyD_kD (k : Key) : keyD (kD k) = some k := by cases k <;> rfl
theorem kD_of {d : D} {k : Key} (h : keyD d = some k) : d = kD k := by
  cases d <;> simp [keyD] at h <;> subst h <;> rfl
def kEq (a b : D) : Bool := decide (keyD a = keyD b) && (keyD a).isSome
theorem kEq_kD (a b : Key) : kEq (kD a) (kD b) = decide (a = b) := by simp [kEq, keyD_kD]
def dlook (kvs : List (D × D)) (k : D) : Option D := (kvs.find? fun p => kEq p.1 k).map (·.2)
def dput (kvs : List (D × D)) (k v : D) : List (D × D) := if (kvs.any fun p => kEq p.1 k) = true then kvs.map (fun p => if kEq p.1 k = true then (p.1, v) else p) else kvs ++ [(k, v)]
section
variable {K : PySem.W.Frag} {W : Wd G} {P H : Hp} {v : V}
theorem rep_key {d : D} {k : Key} (h : keyD d = some k) (r : Rep K W P d v) : v = kV k := by
  rw [kD_of h] at r
  cases k <;> simpa [kD, kV] using r
theorem rd1_key {d : D} {k : Key} (h : keyD d = some k) (r : Rd1 K W P H d v) : v = kV k := by
  rw [kD_of h] at r
  cases k <;> simpa [kD, kV] using r
theorem Repk.look : ∀ {kvs : List (D × D)} {ks : List (Key × V)} (k : Key), Repk K W P kvs (ks.map fun p => (kD p.1, p.2)) → (dlook kvs (kD k) = none ∧ valV ks k = none) ∨ ∃ d v, dlook kvs (kD k) = some d ∧ valV ks k = some v ∧ Rep K W P d v
  | [], ks, k, h => by
    simp only [Repk, List.map_eq_nil_iff] at h; subst h
    left; exact ⟨rfl, rfl⟩
  | (k0, d) :: kvs, ks, k, h => by
    simp only [Repk] at h
    obtain ⟨v, r, e, r1, r2⟩ := h
    cases ks with
    | nil => cases e
    | cons p ks =>
      simp only [List.map_cons, List.cons.injEq, Prod.mk.injEq] at e
      obtain ⟨⟨e1, e2⟩, e3⟩ := e
      subst e1 e2 e3
      by_cases hk : p.1 = k
      · right
        refine ⟨d, p.2, ?_, valV_pos hk, r1⟩
        simp [dlook, kEq_kD, hk]
      · rw [valV_neg hk]
        have e : dlook ((kD p.1, d) :: kvs) (kD k) = dlook kvs (kD k) := by simp [dlook, kEq_kD, hk]
        rw [e]
        exact Repk.look k r2
theorem Repk.any : ∀ {kvs : List (D × D)} {ks : List (Key × V)} (k : Key), Repk K W P kvs (ks.map fun p => (kD p.1, p.2)) → (kvs.any fun p => kEq p.1 (kD k)) = ks.any fun kv => decide (kv.1 = k)
  | [], ks, k, h => by simp only [Repk, List.map_eq_nil_iff] at h; subst h; rfl
  | (k0, d) :: kvs, ks, k, h => by
    simp only [Repk] at h
    obtain ⟨v, r, e, r1, r2⟩ := h
    cases ks with
    | nil => cases e
    | cons p ks =>
      simp only [List.map_cons, List.cons.injEq, Prod.mk.injEq] at e
      obtain ⟨⟨e1, e2⟩, e3⟩ := e
      subst e1 e2 e3
      simp only [List.any_cons, kEq_kD, Repk.any k r2]
theorem Repk.repl {d' : D} {v' : V} (hr : Rep K W P d' v') : ∀ {kvs : List (D × D)} {ks : List (Key × V)} (k : Key), Repk K W P kvs (ks.map fun p => (kD p.1, p.2)) →
    Repk K W P (kvs.map fun p => if kEq p.1 (kD k) = true then (p.1, d') else p) ((ks.map fun kv => if kv.1 = k then (kv.1, v') else kv).map fun p => (kD p.1, p.2))
  | [], ks, k, h => by simp only [Repk, List.map_eq_nil_iff] at h; subst h; simp [Repk]
  | (k0, d) :: kvs, ks, k, h => by
    simp only [Repk] at h
    obtain ⟨v, r, e, r1, r2⟩ := h
    cases ks with
    | nil => cases e
    | cons p ks =>
      simp only [List.map_cons, List.cons.injEq, Prod.mk.injEq] at e
      obtain ⟨⟨e1, e2⟩, e3⟩ := e
      subst e1 e2 e3
      have ih := Repk.repl hr k r2
      by_cases hk : p.1 = k
      · simp only [List.map_cons, kEq_kD, hk, decide_true, if_true, Repk]
        exact ⟨v', _, rfl, hr, ih⟩
      · simp only [List.map_cons, kEq_kD, hk, decide_false, Bool.false_eq_true, if_false, Repk]
        exact ⟨p.2, _, rfl, r1, ih⟩
theorem Repk.snoc {d' : D} {v' : V} (k : D) (hr : Rep K W P d' v') : ∀ {kvs : List (D × D)} {ks : List (D × V)}, Repk K W P kvs ks → Repk K W P (kvs ++ [(k, d')]) (ks ++ [(k, v')])
  | [], ks, h => by simp only [Repk] at h; subst h; simp only [List.nil_append, Repk]; exact ⟨v', [], rfl, hr, rfl⟩
  | (k0, d) :: kvs, ks, h => by
    simp only [Repk] at h
    obtain ⟨v, r, rfl, r1, r2⟩ := h
    simp only [List.cons_append, Repk]
    exact ⟨v, _, rfl, r1, Repk.snoc k hr r2⟩
theorem Repk.put {d' : D} {v' : V} (hr : Rep K W P d' v') {kvs : List (D × D)} {ks : List (Key × V)} (k : Key) (h : Repk K W P kvs (ks.map fun p => (kD p.1, p.2))) : Repk K W P (dput kvs (kD k) d') ((putK ks k v').map fun p => (kD p.1, p.2)) := by
  unfold dput putK
  rw [Repk.any k h]
  split
  · exact h.repl hr k
  · rw [List.map_append]; exact h.snoc (kD k) hr
theorem Repk.length : ∀ {kvs : List (D × D)} {ks : List (D × V)}, Repk K W P kvs ks → ks.length = kvs.length
  | [], ks, h => by simp only [Repk] at h; subst h; rfl
  | (k0, d) :: kvs, ks, h => by
    simp only [Repk] at h
    obtain ⟨v, r, rfl, r1, r2⟩ := h
    simp [Repk.length r2]
end
end DL
namespace DL
open PySem PySem.Spec L2
variable {G : Type}
/-! ### in, not in -/
def subStr (a b : Str) : Bool := !(Builtin.Str.occurrences b a 0 b.length 1).isEmpty
def okIn (x : D) (ds : List D) : Bool := x.pl && D.pls ds && decide (min (PyData.depthAll (D.pys ds)) x.py.depth ≤ 100)
def inD (x : D) (ds : List D) : Bool := ds.any fun y => eqD y x
def opIn (neg : Bool) : D → D → Option S
  | x, .lst ds => if okIn x ds = true then some (.sh (.bl (neg ^^ inD x ds))) else none
  | x, .tup ds => if okIn x ds = true then some (.sh (.bl (neg ^^ inD x ds))) else none
  | x, .dct kvs => match keyD x with
    | some k => some (.sh (.bl (neg ^^ (dlook kvs x).isSome)))
    | none => none
  | .str a, .str b => some (.sh (.bl (neg ^^ subStr a b)))
  | _, _ => none
theorem any_pys (x : PyData) : ∀ ds : List D, ((D.pys ds).any fun y => PyData.eqv y x) = ds.any fun y => PyData.eqv y.py x
  | [] => rfl
  | d :: ds => by simp only [D.pys, List.any_cons, any_pys x ds]
def rInP (K : PySem.W.Frag) (neg : Bool) : R2 := fun x y H Q =>
  (∃ d ds, Dp K H x d ∧ (Dp K H y (.list ds) ∨ Dp K H y (.tuple ds)) ∧ d.plain = true ∧ PyData.plainAll ds = true ∧ min (PyData.depthAll ds) d.depth ≤ 100 ∧ Q (.bl (neg ^^ ds.any fun y => PyData.eqv y d)) H) ∨
  (∃ i j, x = .str i ∧ y = .str j ∧ Q (.bl (neg ^^ subStr i j)) H) ∨ (∃ a o, y = .ref a ∧ DGet H a x o ∧ Q (.bl (neg ^^ o.isSome)) H)
theorem op_inP {X : Cx} (hu : X.A.units + 150 < cLine) : OpR X (compareOp .In) (rInP X.K false) := by
  intro pins s σ H x y v u Q I rx ry h
  rcases h with ⟨d, ds, hd, he, pd, pe, hz, q⟩ | ⟨i, j, rfl, rfl, q⟩ | ⟨a, o, rfl, g, q⟩
  · obtain ⟨as, r1⟩ := Dp.reads I d x v hd rx
    rcases he with he | he
    · obtain ⟨bs, r2⟩ := Dp.reads I _ y u he ry
      exact SeqAt.in_list_data r2 r1 pe pd (by omega) ⟨.bl _, H, I, rfl, by simpa using q⟩
    · obtain ⟨bs, r2⟩ := Dp.reads I _ y u he ry
      exact SeqAt.in_tuple_data r2 r1 pe pd (by omega) ⟨.bl _, H, I, rfl, by simpa using q⟩
  · exact op_in_str pins s σ H _ _ v u Q I rx ry ⟨i, j, rfl, rfl, by simpa [subStr] using q⟩
  · obtain rfl : u = .ref a := ry
    exact d_in (by omega) I g rx fun s' I' => ⟨.bl _, H, I', rfl, by simpa using q⟩
theorem op_ninP {X : Cx} (hu : X.A.units + 150 < cLine) : OpR X (compareOp .NotIn) (rInP X.K true) := by
  intro pins s σ H x y v u Q I rx ry h
  rcases h with ⟨d, ds, hd, he, pd, pe, hz, q⟩ | ⟨i, j, rfl, rfl, q⟩ | ⟨a, o, rfl, g, q⟩
  · obtain ⟨as, r1⟩ := Dp.reads I d x v hd rx
    rcases he with he | he
    · obtain ⟨bs, r2⟩ := Dp.reads I _ y u he ry
      exact SeqAt.notIn_list_data r2 r1 pe pd (by omega) ⟨.bl _, H, I, rfl, by simpa using q⟩
    · obtain ⟨bs, r2⟩ := Dp.reads I _ y u he ry
      exact SeqAt.notIn_tuple_data r2 r1 pe pd (by omega) ⟨.bl _, H, I, rfl, by simpa using q⟩
  · exact op_notin_str pins s σ H _ _ v u Q I rx ry ⟨i, j, rfl, rfl, by simpa [subStr] using q⟩
  · obtain rfl : u = .ref a := ry
    exact d_notIn (by omega) I g rx fun s' I' => ⟨.bl _, H, I', rfl, by simpa using q⟩
theorem b_in {K : PySem.W.Frag} {W : Wd G} {neg : Bool} : B2 K W (rInP K neg) (opIn neg) := by
  intro P₀ H₀ P O σ st τ ts H g x y dx dy z Q R rx ry h q
  have seq : ∀ (ds : List D), okIn dx ds = true → z = .sh (.bl (neg ^^ inD dx ds)) → (Dp K H y (.list (D.pys ds)) ∨ Dp K H y (.tuple (D.pys ds))) → rInP K neg x y H Q := fun ds hc hz hy => by
    simp only [okIn, Bool.and_eq_true, decide_eq_true_eq] at hc
    subst hz
    refine .inl ⟨dx.py, D.pys ds, rx.dp R.sub hc.1.1, hy, D.plain_of _ hc.1.1, D.plains_of _ hc.1.2, hc.2, q _ _ (R.ofSh ?_)⟩
    simp only [rep_blk, inD, any_pys]
    rfl
  cases dy with
  | lst ds =>
    have h' : (if okIn dx ds = true then some (S.sh (.bl (neg ^^ inD dx ds))) else none) = some z := by cases dx <;> exact h
    split at h'
    · rename_i hc
      have hc2 := hc
      simp only [okIn, Bool.and_eq_true] at hc2
      have := Rd1.dp (K := K) (W := W) R.sub (d := .lst ds) (by simp only [D.pl]; exact hc2.1.2) ry
      simp only [D.py] at this
      exact seq ds hc (Option.some.inj h').symm (.inl this)
    · cases h'
  | tup ds =>
    have h' : (if okIn dx ds = true then some (S.sh (.bl (neg ^^ inD dx ds))) else none) = some z := by cases dx <;> exact h
    split at h'
    · rename_i hc
      have hc2 := hc
      simp only [okIn, Bool.and_eq_true] at hc2
      have := Rd1.dp (K := K) (W := W) R.sub (d := .tup ds) (by simp only [D.pl]; exact hc2.1.2) ry
      simp only [D.py] at this
      exact seq ds hc (Option.some.inj h').symm (.inr this)
    · cases h'
  | dct kvs =>
    have h' : (match keyD dx with | some k => some (S.sh (.bl (neg ^^ (dlook kvs dx).isSome))) | none => none) = some z := by cases dx <;> exact h
    cases hk : keyD dx with
    | none => rw [hk] at h'; cases h'
    | some k =>
      rw [hk] at h'
      simp only [Option.some.injEq] at h'; subst h'
      obtain ⟨a, o, ks, rfl, eH, ⟨ks', hdk0, rfl⟩, rp⟩ := ry
      have ex := rd1_key hk rx
      subst ex
      have hdk := kD_of hk
      refine .inr (.inr ⟨a, valV ks' k, rfl, .inl ⟨ks', k, hdk0.rd eH, rfl, rfl⟩, q _ _ (R.ofSh ?_)⟩)
      rw [rep_blk]
      subst hdk
      rcases rp.look k with ⟨e1, e2⟩ | ⟨d, v, e1, e2, _⟩ <;> rw [e1, e2] <;> rfl
  | str b =>
    cases dx with
    | str a =>
      simp only [opIn, Option.some.injEq] at h; subst h
      rw [rd1_str] at rx ry
      exact .inr (.inl ⟨a, b, rx, ry, q _ _ (R.ofSh (by simp))⟩)
    | _ => cases h
  | _ => cases dx <;> cases h
section
variable {C : CF} {Fam : Wd G → Prop} {a b c : Expr} {fa fb fc : M G S} {pos p p2 : Pos}
theorem CF.inP (C : CF) (j : C.ι) : OpR (C.X j) (compareOp .In) (rInP C.K false) := by rw [← C.hK j]; exact op_inP (by have := C.un j; omega)
theorem CF.ninP (C : CF) (j : C.ι) : OpR (C.X j) (compareOp .NotIn) (rInP C.K true) := by rw [← C.hK j]; exact op_ninP (by have := C.un j; omega)
theorem t_in (ha : DE C Fam a fa) (hb : DE C Fam b fb) (hm : behindInMarks .In b = false := by rfl) : DT C Fam (.Compare a [.In] [b] pos) (mTest (mOp (opIn false) fa fb)) := d_tcmp C.inP (fun _ _ => b_in) ha hb hm
theorem t_nin (ha : DE C Fam a fa) (hb : DE C Fam b fb) (hm : behindInMarks .NotIn b = false := by rfl) : DT C Fam (.Compare a [.NotIn] [b] pos) (mTest (mOp (opIn true) fa fb)) := d_tcmp C.ninP (fun _ _ => b_in) ha hb hm
/-! is None -/
def isNon : D → Bool
  | .non => true
  | _ => false
def opIs (neg : Bool) : D → D → Option S
  | .obj _, _ => none
  | d, .non => some (.sh (.bl (neg ^^ isNon d)))
  | _, _ => none
/-! ### x[i] -/
def opIx : D → D → Option S
  | .tup ds, .int i => (atI ds i).map S.sh
  | .lst ds, .int i => (atI ds i).map S.sh
  | .str x, .int i => if x.length ≤ sizeLine then (atI x.cps.toList i).map fun c => S.sh (.str ⟨#[c]⟩) else none
  | .dct kvs, k => match keyD k with
    | some _ => (dlook kvs k).map S.sh
    | none => none
  | _, _ => none
theorem atI_rep {K : PySem.W.Frag} {W : Wd G} {P : Hp} {ds : List D} {xs : List V} {i : Int} {d : D} (r : Reps K W P ds xs) (h : atI ds i = some d) : ∃ v, atI xs i = some v ∧ Rep K W P d v := by
  unfold atI at h ⊢
  rw [r.length]
  cases e : ixN ds.length i with
  | none => rw [e] at h; cases h
  | some j =>
    rw [e] at h
    exact r.get h
def rDG : R2 := fun x y H Q => ∃ a v, x = .ref a ∧ DGet H a y (some v) ∧ Q v H
theorem PE.or {X : Cx} {e : Expr} {t t' : TE} (h : PE X e t) (h' : PE X e t') : PE X e (fun σ H Q => t σ H Q ∨ t' σ H Q) := ⟨fun pins s σ H Q I q => q.elim (h.run pins s σ H Q I) (h'.run pins s σ H Q I)⟩
theorem d_sub' (ha : DE C Fam a fa) (hb : DE C Fam b fb) (hs : PlainIx b := by exact fun _ _ => rfl) : DE C Fam (.Subscript a b pos) (mOp opIx fa fb) := by
  obtain ⟨ta, pa, ea⟩ := ha.ex
  obtain ⟨tb, pb, eb⟩ := hb.ex
  refine ⟨fun σ H Q => tOp (rIx C.K) ta tb σ H Q ∨ tOp rDG ta tb σ H Q, fun j => PE.or (by rw [← C.hK j]; exact pe_ix ix_seq (pa j) (pb j) hs) (pe_dget (by have := C.un j; omega) (pa j) (pb j) hs), fun W hW P₀ H₀ σ st τ ts H g z st' g' Q R h q => ?_⟩
  obtain ⟨x, st1, g1, e1, h⟩ := bnd_eq h
  obtain ⟨y, st2, g2, e2, h⟩ := bnd_eq h
  obtain ⟨dx, e3, h⟩ := Option.bind_eq_some_iff.mp h
  obtain ⟨dy, e4, h⟩ := Option.bind_eq_some_iff.mp h
  obtain ⟨z', e5, h⟩ := Option.map_eq_some_iff.mp h
  simp only [Prod.mk.injEq] at h; obtain ⟨rfl, rfl, rfl⟩ := h
  have main : ∀ (r : R2), (∀ (P : Hp) (O : Addr → Option Tag) (H2 : Hp) (v1 v2 : V), RelB C.K W P₀ H₀ P O σ st2 τ ts H2 g2 → Rd1 C.K W P H2 dx v1 → Rd1 C.K W P H2 dy v2 → r v1 v2 H2 Q) → tOp r ta tb σ H Q := fun r hr => by
    refine ea W hW _ _ _ _ _ _ _ _ _ _ _ _ R e1 fun v1 H1 R1 => ?_
    refine eb W hW _ _ _ _ _ _ _ _ _ _ _ _ R1 e2 fun v2 H2 R2 => ?_
    obtain ⟨P, O, R2⟩ := R2
    exact hr P O H2 v1 v2 R2.pop.pop (R2.pop.peekV e3) (R2.peekV e4)
  cases dx with
  | tup ds =>
    cases dy with
    | int i =>
      left
      refine main _ fun P O H2 v1 v2 R2 r1 r2 => ?_
      rw [rd1_int] at r2
      obtain ⟨pa, xs, rfl, sq, _, rs⟩ := rd1_tup.mp r1
      simp only [opIx] at e5
      obtain ⟨d, e6, rfl⟩ := Option.map_eq_some_iff.mp e5
      obtain ⟨v, e7, rv⟩ := atI_rep rs e6
      exact .inr (.inl ⟨pa, xs, i, v, rfl, r2, R2.sub.sqT sq.sq, e7, q _ _ (R2.ofSh rv)⟩)
    | _ => cases e5
  | lst ds =>
    cases dy with
    | int i =>
      left
      refine main _ fun P O H2 v1 v2 R2 r1 r2 => ?_
      rw [rd1_int] at r2
      obtain ⟨pa, xs, rfl, sq, _, rs⟩ := rd1_lst.mp r1
      simp only [opIx] at e5
      obtain ⟨d, e6, rfl⟩ := Option.map_eq_some_iff.mp e5
      obtain ⟨v, e7, rv⟩ := atI_rep rs e6
      exact .inl ⟨pa, xs, i, v, rfl, r2, SqL.of sq, e7, q _ _ (R2.ofSh rv)⟩
    | _ => cases e5
  | str x =>
    cases dy with
    | int i =>
      left
      refine main _ fun P O H2 v1 v2 R2 r1 r2 => ?_
      rw [rd1_int] at r2
      rw [rd1_str] at r1
      simp only [opIx] at e5
      split at e5
      · rename_i hz
        obtain ⟨c, e6, rfl⟩ := Option.map_eq_some_iff.mp e5
        exact .inr (.inr ⟨x, i, c, r1, r2, hz, e6, q _ _ (R2.ofSh (by simp))⟩)
      · cases e5
    | _ => cases e5
  | dct kvs =>
    right
    have h' : (match keyD dy with | some _ => (dlook kvs dy).map S.sh | none => none) = some z' := by cases dy <;> exact e5
    cases hk : keyD dy with
    | none => rw [hk] at h'; cases h'
    | some k =>
      rw [hk] at h'
      obtain ⟨d, e6, rfl⟩ := Option.map_eq_some_iff.mp h'
      refine main _ fun P O H2 v1 v2 R2 r1 r2 => ?_
      obtain ⟨pa, o, ks, rfl, eH, ⟨ks', hdk0, rfl⟩, rp⟩ := r1
      have ey := rd1_key hk r2
      subst ey
      have hdk := kD_of hk
      subst hdk
      rcases rp.look k with ⟨f1, f2⟩ | ⟨d', v, f1, f2, rv⟩
      · rw [f1] at e6; cases e6
      · rw [f1] at e6; cases e6
        exact ⟨pa, v, rfl, .inl ⟨ks', k, hdk0.rd eH, rfl, f2.symm⟩, q _ _ (R2.ofSh rv)⟩
  | _ => cases dy <;> cases e5
end
end DL
namespace DL
open PySem PySem.Spec L2
variable {G : Type}
section
variable {C : CF} {Fam : Wd G → Prop} {a b c : Expr} {fa fb fc : M G S} {pos p p2 : Pos} {x : Str} {id T : String} {r : List V → Hp → VK → Prop} {f : D → Option S}
theorem d_cb (hc : ∀ j, CallR (C.X j) (.builtin id) r) (hf : ∀ W, Fam W → B1 C.K W (fun v => r [v]) f) (hv : bootBuiltins x = some (.builtin id)) (hm : C.mg x = none) (ha : DE C Fam a fa) (hg : ∀ j, Gl (C.X j) x := by intro _; rfl) (hn : x ≠ "__name__" := by decide) (hdb : (x == ("__debug__" : Str)) = false := by decide)
    (he : ∀ j, starEach [a] (C.X j).env = (false, eval a (C.X j).env) :: starEach [] (C.X j).env := by intro _; rfl) : DE C Fam (.Call (.Name x p) [a] [] pos) (mUn f fa) := by
  obtain ⟨ta, pa, ea⟩ := ha.ex
  exact ⟨tUn (fun v => r [v]) ta, fun j => pe_callB (hc j) (hg j) (by rw [C.hmg j]; exact hm) hv (pa_cons (pa j) pa_nil (he j)) hn hdb (he j), fun W h => ev_un (ea W h) (hf W h)⟩
theorem d_ct (hc : ∀ j, CallR (C.X j) (.type T) r) (hf : ∀ W, Fam W → B1 C.K W (fun v => r [v]) f) (hv : bootBuiltins x = some (.type T)) (hm : C.mg x = none) (ha : DE C Fam a fa) (hg : ∀ j, Gl (C.X j) x := by intro _; rfl) (hn : x ≠ "__name__" := by decide) (hdb : (x == ("__debug__" : Str)) = false := by decide)
    (he : ∀ j, starEach [a] (C.X j).env = (false, eval a (C.X j).env) :: starEach [] (C.X j).env := by intro _; rfl) : DE C Fam (.Call (.Name x p) [a] [] pos) (mUn f fa) := by
  obtain ⟨ta, pa, ea⟩ := ha.ex
  exact ⟨tUn (fun v => r [v]) ta, fun j => pe_callTy (hc j) (hg j) (by rw [C.hmg j]; exact hm) hv (pa_cons (pa j) pa_nil (he j)) hn hdb (he j), fun W h => ev_un (ea W h) (hf W h)⟩
end
/-! len -/
def opLen : D → Option S
  | .tup ds => some (.sh (.int ds.length))
  | .lst ds => some (.sh (.int ds.length))
  | .dct ds => some (.sh (.int ds.length))
  | .str x => if x.length ≤ sizeLine then some (.sh (.int x.length)) else none
  | _ => none
def rLen (K : PySem.W.Frag) : List V → Hp → VK → Prop := fun xs H Q => (∃ x n, xs = [x] ∧ LenV K x H n ∧ Q (.int n) H) ∨ ∃ a kvs, xs = [V.ref a] ∧ Rd H a (.dK kvs) ∧ Q (.int kvs.length) H
theorem call_lenR {X : Cx} : CallR X (.builtin "len") (fun xs H Q => ∃ a kvs, xs = [V.ref a] ∧ Rd H a (.dK kvs) ∧ Q (.int kvs.length) H) := by
  intro pins s σ H xs us Q I r h
  obtain ⟨a, kvs, rfl, ha, q⟩ := h
  obtain ⟨u, rfl, ru⟩ := vals1 r
  cases ru
  exact L2.d_len I ha fun t s' I' => ⟨.int kvs.length, H, I', ⟨t, rfl⟩, q⟩
theorem b_len {K : PySem.W.Frag} {W : Wd G} : B1 K W (fun v => rLen K [v]) opLen := by
  intro P₀ H₀ P O σ st τ ts H g x dx z Q R rx h q
  cases dx with
  | tup ds =>
    cases h
    obtain ⟨a, xs, rfl, sq, _, rs⟩ := rd1_tup.mp rx
    exact .inl ⟨_, xs.length, rfl, .inr ⟨xs, R.sub.sqT sq.sq, rfl⟩, q _ _ (R.ofSh (by simp [rs.length]))⟩
  | lst ds =>
    cases h
    obtain ⟨a, xs, rfl, sq, _, rs⟩ := rd1_lst.mp rx
    exact .inl ⟨_, xs.length, rfl, .inl ⟨xs, SqL.of sq, rfl⟩, q _ _ (R.ofSh (by simp [rs.length]))⟩
  | dct ds =>
    cases h
    obtain ⟨a, o, ks, rfl, eH, ⟨ks', hdk0, rfl⟩, rp⟩ := rx
    exact .inr ⟨a, ks', rfl, hdk0.rd eH, q _ _ (R.ofSh (by have := rp.length; simp at this; simp [this]))⟩
  | str y =>
    simp only [opLen] at h
    split at h
    · rename_i hz
      cases h
      rw [rd1_str] at rx; subst rx
      exact .inl ⟨_, y.length, rfl, ⟨hz, rfl⟩, q _ _ (R.ofSh (by simp))⟩
    · cases h
  | _ => cases h
/-! tuple, list -/
def opTuple : D → Option S
  | .tup ds => some (.sh (.tup ds))
  | .lst ds => some (.sh (.tup ds))
  | _ => none
theorem b_tuple {K : PySem.W.Frag} {W : Wd G} : B1 K W (fun v => DY.rTupleF K [v]) opTuple := by
  intro P₀ H₀ P O σ st τ ts H g x dx z Q R rx h q
  cases dx with
  | tup ds =>
    cases h
    have r0 := rx
    obtain ⟨a, xs, rfl, sq, _, rs⟩ := rd1_tup.mp rx
    exact ⟨a, xs, rfl, .inr ⟨R.sub.sqT sq.sq, q _ _ (R.ofSh r0)⟩⟩
  | lst ds =>
    cases h
    obtain ⟨a, xs, rfl, sq, hz, rs⟩ := rd1_lst.mp rx
    exact ⟨a, xs, rfl, .inl ⟨SqL.of sq, fun p ob hp hd => q _ _ (R.newTup hp hd rs hz)⟩⟩
  | _ => cases h
def opList : D → Option S
  | .tup ds => some (.ow (.lst ds))
  | .lst ds => some (.ow (.lst ds))
  | _ => none
/-! all, any, sum -/
def intsD : List D → Option (List Int)
  | [] => some []
  | .int b :: ds => (intsD ds).map (b :: ·)
  | _ => none
theorem intsD_rep {K : PySem.W.Frag} {W : Wd G} {P : Hp} : ∀ {ds : List D} {bs : List Int} {xs : List V}, intsD ds = some bs → Reps K W P ds xs → xs = bs.map V.int
  | [], bs, xs, h, r => by
    simp only [intsD, Option.some.injEq] at h; subst h
    simp only [Reps] at r; rw [r]; rfl
  | d :: ds, bs, xs, h, r => by
    cases d with
    | int b =>
      simp only [intsD] at h
      obtain ⟨bs', e, rfl⟩ := Option.map_eq_some_iff.mp h
      simp only [Reps] at r
      obtain ⟨v, r', rfl, h1, h2⟩ := r
      rw [rep_int] at h1; subst h1
      rw [intsD_rep e h2]; rfl
    | _ => cases h
/-! int, abs -/
def opInt : D → Option S
  | .int i => some (.sh (.int i))
  | .bl k => some (.sh (.int (if k then 1 else 0)))
  | _ => none
def opAbs : D → Option S
  | .int i => some (.sh (.int (if i < 0 then -i else i)))
  | _ => none
section
variable {C : CF} {Fam : Wd G → Prop} {a b c : Expr} {fa fb fc : M G S} {pos p p2 : Pos}
theorem d_len (hm : C.mg "len" = none) (ha : DE C Fam a fa) (hg : ∀ j, Gl (C.X j) "len" := by intro _; rfl) (he : ∀ j, starEach [a] (C.X j).env = (false, eval a (C.X j).env) :: starEach [] (C.X j).env := by intro _; rfl) : DE C Fam (.Call (.Name "len" p) [a] [] pos) (mUn opLen fa) :=
  d_cb (r := rLen C.K) (fun j => by rw [← C.hK j]; exact call_len.or call_lenR) (fun _ _ => b_len) boot_len hm ha hg (he := he)
theorem d_tuple (hm : C.mg "tuple" = none) (ha : DE C Fam a fa) (hg : ∀ j, Gl (C.X j) "tuple" := by intro _; rfl) (he : ∀ j, starEach [a] (C.X j).env = (false, eval a (C.X j).env) :: starEach [] (C.X j).env := by intro _; rfl) : DE C Fam (.Call (.Name "tuple" p) [a] [] pos) (mUn opTuple fa) :=
  d_ct (r := DY.rTupleF C.K) (fun j => by rw [← C.hK j]; exact DY.cr_tupleF) (fun _ _ => b_tuple) (by decide +kernel) hm ha hg (he := he)
theorem d_int1 (hm : C.mg "int" = none) (ha : DE C Fam a fa) (hg : ∀ j, Gl (C.X j) "int" := by intro _; rfl) (he : ∀ j, starEach [a] (C.X j).env = (false, eval a (C.X j).env) :: starEach [] (C.X j).env := by intro _; rfl) : DE C Fam (.Call (.Name "int" p) [a] [] pos) (mUn opInt fa) :=
  d_ct (fun j => call_int1) (fun _ _ => by
    intro P₀ H₀ P O σ st τ ts H g x dx z Q R rx h q
    cases dx with
    | int i => cases h; rw [rd1_int] at rx; exact .inl ⟨i, by rw [rx], q _ _ (R.ofSh (by simp))⟩
    | bl i => cases h; rw [rd1_bl] at rx; exact .inr ⟨i, by rw [rx], q _ _ (R.ofSh (by simp))⟩
    | _ => cases h) (by decide +kernel) hm ha hg (he := he)
theorem d_abs (hm : C.mg "abs" = none) (ha : DE C Fam a fa) (hg : ∀ j, Gl (C.X j) "abs" := by intro _; rfl) (he : ∀ j, starEach [a] (C.X j).env = (false, eval a (C.X j).env) :: starEach [] (C.X j).env := by intro _; rfl) : DE C Fam (.Call (.Name "abs" p) [a] [] pos) (mUn opAbs fa) :=
  d_cb (fun j => call_abs) (fun _ _ => by
    intro P₀ H₀ P O σ st τ ts H g x dx z Q R rx h q
    cases dx with
    | int i => cases h; rw [rd1_int] at rx; exact ⟨i, by rw [rx], q _ _ (R.ofSh (by simp))⟩
    | _ => cases h) (by decide +kernel) hm ha hg (he := he)
end
/-! isinstance -/
inductive Kd where
  | tuple | list | str | int | bool | dict
def Kd.nm : Kd → String
  | .tuple => "tuple"
  | .list => "list"
  | .str => "str"
  | .int => "int"
  | .bool => "bool"
  | .dict => "dict"
def Kd.is : Kd → D → Bool
  | .tuple, .tup _ => true
  | .list, .lst _ => true
  | .str, .str _ => true
  | .int, .int _ => true
  | .int, .bl _ => true
  | .bool, .bl _ => true
  | .dict, .dct _ => true
  | .dict, .dcn _ => true
  | _, _ => false
def tyD : D → String
  | .non => "NoneType"
  | .bl _ => "bool"
  | .int _ => "int"
  | .str _ => "str"
  | .tup _ => "tuple"
  | .lst _ => "list"
  | .dct _ => "dict"
  | .dcn _ => "dict"
  | .obj _ => ""
def notObj : D → Bool
  | .obj _ => false
  | .dcn _ => false
  | _ => true
theorem kit_is (k : Kd) (d : D) (h : notObj d = true) : kitB (tyD d) k.nm = some (k.is d) := by
  have H : ∀ (k : Kd) (e : D), kitB (tyD e) k.nm = some (k.is e) → kitB (tyD e) k.nm = some (k.is e) := fun _ _ h => h
  cases d with
  | non => cases k <;> (show kitB _ _ = some _; decide +kernel)
  | bl _ => cases k <;> (show kitB "bool" _ = some _; simp only [Kd.nm, Kd.is]; decide +kernel)
  | int _ => cases k <;> (show kitB "int" _ = some _; simp only [Kd.nm, Kd.is]; decide +kernel)
  | str _ => cases k <;> (show kitB "str" _ = some _; simp only [Kd.nm, Kd.is]; decide +kernel)
  | tup _ => cases k <;> (show kitB "tuple" _ = some _; simp only [Kd.nm, Kd.is]; decide +kernel)
  | lst _ => cases k <;> (show kitB "list" _ = some _; simp only [Kd.nm, Kd.is]; decide +kernel)
  | dct _ => cases k <;> (show kitB "dict" _ = some _; simp only [Kd.nm, Kd.is]; decide +kernel)
  | dcn _ => cases h
  | obj _ => cases h
theorem tyx_of {K : PySem.W.Frag} {W : Wd G} {P H : Hp} (s : Sub P H) {d : D} {v : V} (h : Rd1 K W P H d v) (ho : notObj d = true) : TyX K H v (.type (tyD d)) := by
  cases d with
  | non => rw [rd1_non] at h; subst h; exact .base .non
  | bl b => rw [rd1_bl] at h; subst h; exact .base (.bl b)
  | int b => rw [rd1_int] at h; subst h; exact .base (.int b)
  | str b => rw [rd1_str] at h; subst h; exact .base (.str b)
  | tup b =>
    obtain ⟨a, xs, rfl, sq, _⟩ := rd1_tup.mp h
    rcases sq with ⟨o, e, _⟩ | ⟨o, its, n, e, c, _⟩
    · exact .fTuple (s _ _ e)
    · exact .kTuple e c
  | lst b => obtain ⟨a, xs, rfl, sq, _⟩ := rd1_lst.mp h; exact .base (.lst sq)
  | dct b =>
    obtain ⟨a, o, ks, rfl, eH, ⟨ks', hdk0, rfl⟩, rp⟩ := h
    rcases hdk0 with rfl | ⟨ob, rfl⟩
    · exact .base (.dK eH)
    · exact .fDict eH
  | dcn _ => cases ho
  | obj n => cases ho
def opIsi (k : Kd) (d : D) : Option S := if notObj d = true then some (.sh (.bl (k.is d))) else none
section
variable {C : CF} {Fam : Wd G → Prop} {a : Expr} {fa : M G S} {pos p p2 p3 p4 : Pos} {T T2 : Str}
theorem d_isi (k : Kd) (hm : C.mg "isinstance" = none) (hmT : C.mg T = none) (ha : DE C Fam a fa) (hT : bootBuiltins T = some (.type k.nm) := by decide +kernel) (hg : ∀ j, Gl (C.X j) "isinstance" := by intro _; rfl) (hgT : ∀ j, Gl (C.X j) T := by intro _; rfl) (hn : T ≠ "__name__" := by decide) (hd : (T == ("__debug__" : Str)) = false := by decide)
    (he : ∀ j, starEach [a, .Name T p2] (C.X j).env = (false, eval a (C.X j).env) :: starEach [.Name T p2] (C.X j).env := by intro _; rfl) : DE C Fam (.Call (.Name "isinstance" p) [a, .Name T p2] [] pos) (mUn (opIsi k) fa) := by
  obtain ⟨ta, pa, ea⟩ := ha.ex
  refine ⟨tUn (fun v => rIsi C.K [v, .ty k.nm]) ta, fun j => pe_callB (id := "isinstance") (r := rIsi C.K) (by rw [← C.hK j]; exact call_isi) (hg j) (by rw [C.hmg j]; exact hm) (by decide +kernel) (pa_cons (pa j) (pa_cons (pe_bltn (v := .ty k.nm) (hgT j) (by rw [C.hmg j]; exact hmT) hT rfl hn hd) pa_nil rfl) (he j)) (he := he j) (hpl := rfl), fun W hW => ev_un (ea W hW) ?_⟩
  intro P₀ H₀ P O σ st τ ts H g x dx z Q R rx h q
  unfold opIsi at h
  split at h
  · rename_i ho
    cases h
    exact ⟨x, .ty k.nm, _, _, _, rfl, .ty _, tyx_of R.sub rx ho, kit_ty (kit_is k dx ho), q _ _ (R.ofSh (by simp))⟩
  · cases h
end
end DL
namespace DL
open PySem PySem.Spec PyProof.Rows L2
variable {G : Type}
/-! ### ascending, each once -/
def ltD (a b : D) : Bool := PySem.W.dataLt a.py b.py
def insD (x : D) : List D → List D
  | [] => [x]
  | y :: ys => if ltD x y = true then x :: y :: ys else if ltD y x = true then y :: insD x ys else y :: ys
def ssD : List D → List D
  | [] => []
  | d :: ds => insD d (ssD ds)
theorem ltD_irr (a : D) : ltD a a = false := lex_irrefl _
theorem ltD_trans {a b c : D} (h : ltD a b = true) (h2 : ltD b c = true) : ltD a c = true := lex_trans _ _ _ h h2
theorem ltD_toks {a b : D} (h : ltD a b = false) (h2 : ltD b a = false) : PySem.W.keyToks a.py = PySem.W.keyToks b.py := lex_total _ _ h h2
def InjT (l : List D) : Prop := ∀ a ∈ l, ∀ b ∈ l, ltD a b = false → ltD b a = false → a = b
theorem insD_sub {x y : D} : ∀ {l : List D}, y ∈ insD x l → y = x ∨ y ∈ l
  | [], h => by simp only [insD, List.mem_singleton] at h; exact .inl h
  | z :: l, h => by
    simp only [insD] at h
    split at h
    · simpa using h
    · split at h
      · rcases List.mem_cons.mp h with e | h
        · exact .inr (e ▸ List.mem_cons_self)
        · rcases insD_sub h with e | h
          · exact .inl e
          · exact .inr (List.mem_cons_of_mem _ h)
      · exact .inr h
theorem ssD_sub {y : D} : ∀ {l : List D}, y ∈ ssD l → y ∈ l
  | [], h => by cases h
  | x :: l, h => by
    rcases insD_sub h with e | h
    · exact e ▸ List.mem_cons_self
    · exact List.mem_cons_of_mem _ (ssD_sub h)
theorem insD_old {x y : D} : ∀ {l : List D}, y ∈ l → y ∈ insD x l
  | z :: l, h => by
    simp only [insD]
    split
    · exact List.mem_cons_of_mem _ h
    · split
      · rcases List.mem_cons.mp h with e | h
        · exact e ▸ List.mem_cons_self
        · exact List.mem_cons_of_mem _ (insD_old h)
      · exact h
theorem insD_new {x : D} : ∀ {l : List D}, (∀ y ∈ l, ltD x y = false → ltD y x = false → x = y) → x ∈ insD x l
  | [], _ => List.mem_cons_self
  | z :: l, hi => by
    simp only [insD]
    split
    · exact List.mem_cons_self
    · rename_i h1
      split
      · exact List.mem_cons_of_mem _ (insD_new fun y hy => hi y (List.mem_cons_of_mem _ hy))
      · rename_i h2
        have := hi z List.mem_cons_self (by simpa using h1) (by simpa using h2)
        rw [this]; exact List.mem_cons_self
theorem ssD_mem {l : List D} (hi : InjT l) {y : D} : y ∈ ssD l ↔ y ∈ l := by
  refine ⟨ssD_sub, ?_⟩
  induction l with
  | nil => intro h; cases h
  | cons x l ih =>
    intro h
    rcases List.mem_cons.mp h with e | h
    · subst e
      exact insD_new fun z hz h1 h2 => hi y List.mem_cons_self z (List.mem_cons_of_mem _ (ssD_sub hz)) h1 h2
    · exact insD_old (ih (fun a ha b hb => hi a (List.mem_cons_of_mem _ ha) b (List.mem_cons_of_mem _ hb)) h)
def Asc (l : List D) : Prop := l.Pairwise fun a b => ltD a b = true
theorem insD_asc {x : D} : ∀ {l : List D}, Asc l → Asc (insD x l)
  | [], _ => by simp [insD, Asc]
  | z :: l, h => by
    have h0 := h
    unfold Asc at h
    rw [List.pairwise_cons] at h
    simp only [insD]
    split
    · rename_i h1
      unfold Asc
      rw [List.pairwise_cons]
      refine ⟨fun y hy => ?_, h0⟩
      rcases List.mem_cons.mp hy with e | hy
      · exact e ▸ h1
      · exact ltD_trans h1 (h.1 y hy)
    · split
      · rename_i h1 h2
        unfold Asc
        rw [List.pairwise_cons]
        refine ⟨fun y hy => ?_, insD_asc h.2⟩
        rcases insD_sub hy with e | hy
        · exact e ▸ h2
        · exact h.1 y hy
      · exact h0
theorem ssD_asc : ∀ l : List D, Asc (ssD l)
  | [] => List.Pairwise.nil
  | x :: l => insD_asc (ssD_asc l)
theorem asc_one : ∀ {a b : List D}, Asc a → Asc b → (∀ y, y ∈ a ↔ y ∈ b) → a = b
  | [], [], _, _, _ => rfl
  | [], y :: b, _, _, h => by have := (h y).mpr List.mem_cons_self; cases this
  | x :: a, [], _, _, h => by have := (h x).mp List.mem_cons_self; cases this
  | x :: a, y :: b, ha, hb, h => by
    unfold Asc at ha hb
    rw [List.pairwise_cons] at ha hb
    have e : x = y := by
      rcases List.mem_cons.mp ((h x).mp List.mem_cons_self) with e | h1
      · exact e
      · rcases List.mem_cons.mp ((h y).mpr List.mem_cons_self) with e | h2
        · exact e.symm
        · have := ltD_trans (ha.1 y h2) (hb.1 x h1)
          rw [ltD_irr] at this; cases this
    subst e
    rw [asc_one ha.2 hb.2 fun z => ⟨fun hz => ?_, fun hz => ?_⟩]
    · rcases List.mem_cons.mp ((h z).mp (List.mem_cons_of_mem _ hz)) with e | h1
      · have := ha.1 z hz; rw [e, ltD_irr] at this; cases this
      · exact h1
    · rcases List.mem_cons.mp ((h z).mpr (List.mem_cons_of_mem _ hz)) with e | h1
      · have := hb.1 z hz; rw [e, ltD_irr] at this; cases this
      · exact h1
theorem ssD_len : ∀ l : List D, (ssD l).length ≤ l.length
  | [] => Nat.le_refl _
  | x :: l => by
    have : ∀ l : List D, (insD x l).length ≤ l.length + 1 := by
      intro l
      induction l with
      | nil => simp [insD]
      | cons y l ih =>
        simp only [insD]
        split
        · simp
        · split
          · simpa using ih
          · simp
    simp only [ssD, List.length_cons]
    exact Nat.le_trans (this _) (Nat.succ_le_succ (ssD_len l))
/-- a sorted list of unlike things -/
theorem ssD_of {l zs : List D} (hi : InjT l) (hs : zs.Pairwise fun a b => ltD b a = false) (hn : zs.Nodup) (hm : ∀ y, y ∈ zs ↔ y ∈ l) : zs = ssD l := by
  refine asc_one ?_ (ssD_asc l) fun y => (hm y).trans (ssD_mem hi).symm
  unfold Asc
  induction zs generalizing l with
  | nil => exact List.Pairwise.nil
  | cons z zs ih =>
    rw [List.pairwise_cons] at hs ⊢
    rw [List.nodup_cons] at hn
    refine ⟨fun y hy => ?_, ih (l := zs) (fun a ha b hb => hi a ((hm a).mp (List.mem_cons_of_mem _ ha)) b ((hm b).mp (List.mem_cons_of_mem _ hb))) hs.2 hn.2 fun _ => Iff.rfl⟩
    cases e : ltD z y with
    | true => rfl
    | false =>
      have := hi z ((hm z).mp List.mem_cons_self) y ((hm y).mp (List.mem_cons_of_mem _ hy)) e (hs.1 y hy)
      subst this; exact absurd hy hn.1
/-! ### keys -/
def isI : D → Bool
  | .int _ => true
  | _ => false
def isT : D → Bool
  | .str _ => true
  | _ => false
def keysD : List D → Option (List Key)
  | [] => some []
  | d :: ds => match keyD d with
    | some k => (keysD ds).map (k :: ·)
    | none => none
theorem keysD_eq : ∀ {ds : List D} {ks : List Key}, keysD ds = some ks → ds = ks.map kD
  | [], ks, h => by simp only [keysD, Option.some.injEq] at h; subst h; rfl
  | d :: ds, ks, h => by
    simp only [keysD] at h
    cases e : keyD d with
    | none => rw [e] at h; cases h
    | some k =>
      rw [e] at h
      obtain ⟨ks', e2, rfl⟩ := Option.map_eq_some_iff.mp h
      rw [keysD_eq e2, kD_of e]; rfl
theorem repsK {K : PySem.W.Frag} {W : Wd G} {P : Hp} : ∀ ks : List Key, Reps K W P (ks.map kD) (ks.map kV)
  | [] => by simp [Reps]
  | k :: ks => by
    rw [List.map_cons, List.map_cons]
    simp only [Reps]
    refine ⟨_, _, rfl, ?_, repsK ks⟩
    cases k <;> simp [kD, kV]
theorem repsK_eq {K : PySem.W.Frag} {W : Wd G} {P : Hp} : ∀ {ks : List Key} {vs : List V}, Reps K W P (ks.map kD) vs → vs = ks.map kV
  | [], vs, h => by simp only [List.map_nil, Reps] at h; exact h
  | k :: ks, vs, h => by
    rw [List.map_cons] at h
    simp only [Reps] at h
    obtain ⟨v, r, rfl, h1, h2⟩ := h
    rw [repsK_eq h2, List.map_cons]
    cases k with
    | inl i => simp only [kD, rep_int] at h1; rw [h1]; rfl
    | inr i => simp only [kD, rep_str] at h1; rw [h1]; rfl
theorem kD_inj {a b : Key} (h : kD a = kD b) : a = b := by
  cases a <;> cases b <;> simp [kD] at h <;> rw [h]
theorem injT_keys (ks : List Key) : InjT (ks.map kD) := by
  intro a ha b hb h1 h2
  obtain ⟨j, _, rfl⟩ := List.mem_map.mp ha
  obtain ⟨k, _, rfl⟩ := List.mem_map.mp hb
  have := ltD_toks h1 h2
  cases j <;> cases k <;> simp only [kD, D.py, PySem.W.keyToks, List.cons.injEq, Sum.inl.injEq, Sum.inr.injEq, and_true, reduceCtorEq] at this
  · rw [this]
  · rw [PySem.W.str_of_cps this]
def okSS (ds : List D) : Bool := (ds.all isI || ds.all isT) && decide (ds.length < 64)
def opSS : D → Option S
  | .lst ds => if okSS ds = true then some (.ow (.lst (ssD ds))) else none
  | .tup ds => if okSS ds = true then some (.ow (.lst (ssD ds))) else none
  | _ => none
theorem keysD_ok : ∀ {ds : List D}, (ds.all isI = true ∨ ds.all isT = true) → ∃ ks, keysD ds = some ks
  | [], _ => ⟨[], rfl⟩
  | d :: ds, h => by
    obtain ⟨ks, e⟩ := keysD_ok (ds := ds) (by
      rcases h with h | h
      · rw [List.all_cons, Bool.and_eq_true] at h; exact .inl h.2
      · rw [List.all_cons, Bool.and_eq_true] at h; exact .inr h.2)
    rcases h with h | h
    · rw [List.all_cons, Bool.and_eq_true] at h
      cases d with
      | int i => exact ⟨.inl i :: ks, by simp [keysD, keyD, e]⟩
      | _ => cases h.1
    · rw [List.all_cons, Bool.and_eq_true] at h
      cases d with
      | str i => exact ⟨.inr i :: ks, by simp [keysD, keyD, e]⟩
      | _ => cases h.1
theorem alike_keys {ks : List Key} (h : (ks.map kD).all isI = true ∨ (ks.map kD).all isT = true) {js : List Key} (hj : ∀ k, k ∈ js → k ∈ ks) : PySem.W.AllAlike (js.map fun k => (kD k).py) ∧ PySem.W.Sortable (js.map fun k => (kD k).py) := by
  constructor
  · intro d hd e he
    obtain ⟨a, ha, rfl⟩ := List.mem_map.mp hd
    obtain ⟨b, hb, rfl⟩ := List.mem_map.mp he
    have xa := List.mem_map_of_mem (f := kD) (hj a ha)
    have xb := List.mem_map_of_mem (f := kD) (hj b hb)
    rcases h with h | h
    · have h1 := List.all_eq_true.mp h _ xa
      have h2 := List.all_eq_true.mp h _ xb
      cases a <;> cases b <;> simp [kD, isI] at h1 h2 <;> rfl
    · have h1 := List.all_eq_true.mp h _ xa
      have h2 := List.all_eq_true.mp h _ xb
      cases a <;> cases b <;> simp [kD, isT] at h1 h2 <;> rfl
  · right
    intro d hd
    obtain ⟨a, ha, rfl⟩ := List.mem_map.mp hd
    cases a with
    | inl i => exact ⟨fun q => by simp [kD, D.py] at q, fun xs q => by simp [kD, D.py] at q⟩
    | inr i => exact ⟨fun q => by simp [kD, D.py] at q, fun xs q => by simp [kD, D.py] at q⟩
theorem nodup_kD {js : List Key} (h : js.Nodup) : (js.map kD).Nodup := by
  unfold List.Nodup at h ⊢
  rw [List.pairwise_map]
  exact h.imp fun hne e => hne (kD_inj e)
theorem ss_keys {ks js : List Key} {zs' : List (V × PyData)} (hn : js.Nodup) (hm : ∀ k, k ∈ js ↔ k ∈ ks) (hp : zs'.Perm (js.map fun k => (kV k, (kD k).py))) : ∃ js' : List Key, ssD (ks.map kD) = js'.map kD ∧ (zs'.mergeSort (PySem.W.dataLe false (·.2))).map (·.1) = js'.map kV := by
  have hp2 := (List.mergeSort_perm zs' (PySem.W.dataLe false (·.2))).trans hp
  obtain ⟨js', pj, ej⟩ := perm_lift (fun k => (kV k, (kD k).py)) hp2 js rfl
  refine ⟨js', ?_, by rw [← ej, List.map_map]; rfl⟩
  have tot := PySem.W.sortLe_total (listOrd itemOrd) false fun b : V × PyData => PySem.W.keyToks b.2
  have srt : (zs'.mergeSort (PySem.W.dataLe false (·.2))).Pairwise fun a b => PySem.W.dataLe false (·.2) a b = true := List.pairwise_mergeSort (fun a b c h1 h2 => tot.trans a b c h1 h2) (fun a b => by rw [Bool.or_eq_true]; exact tot.total a b) _
  rw [← ej, List.pairwise_map] at srt
  refine (ssD_of (injT_keys ks) ?_ (nodup_kD (pj.nodup_iff.mpr hn)) fun y => ?_).symm
  · rw [List.pairwise_map]
    refine srt.imp fun {a b} h => ?_
    rw [PySem.W.dataLe_eq] at h
    simpa [ltD] using h
  · constructor
    · intro h
      obtain ⟨k, hk, rfl⟩ := List.mem_map.mp h
      exact List.mem_map_of_mem ((hm k).mp (pj.mem_iff.mp hk))
    · intro h
      obtain ⟨k, hk, rfl⟩ := List.mem_map.mp h
      exact List.mem_map_of_mem (pj.mem_iff.mpr ((hm k).mpr hk))
def rSS (w : World) (K : PySem.W.Frag) : V → Hp → VK → Prop := fun v H Q => DX.rSetK w K [v] H fun y H2 => DX.rSortO w K [y] H2 Q
theorem okSS_keys {ds : List D} (h : okSS ds = true) : ∃ ks : List Key, ds = ks.map kD ∧ ks.length < 64 ∧ ((ks.map kD).all isI = true ∨ (ks.map kD).all isT = true) := by
  simp only [okSS, Bool.and_eq_true, Bool.or_eq_true, decide_eq_true_eq] at h
  obtain ⟨ks, e⟩ := keysD_ok h.1
  have := keysD_eq e
  subst this
  exact ⟨ks, rfl, by simpa using h.2, h.1⟩
theorem b_ss {w : World} {K : PySem.W.Frag} {W : Wd G} : B1 K W (rSS w K) opSS := by
  intro P₀ H₀ P O σ st τ ts H g x dx z Q R rx h q
  have main : ∀ (ds : List D) (a : Addr) (xs : List V), okSS ds = true → z = .ow (.lst (ssD ds)) → (SqL K H a xs ∨ SqT K H a xs) → Reps K W P ds xs → x = .ref a → ds.length ≤ sizeLine → rSS w K x H Q := by
    intro ds a xs hk hz hs rs ex hzl
    obtain ⟨ks, rfl, h64, hal⟩ := okSS_keys hk
    have := repsK_eq rs; subst this
    subst ex
    refine ⟨a, ks, rfl, hs, h64, fun p js hp hn hm => ?_⟩
    have R2 := R.waste (o := DX.SetO w p (js.map kV)) hp
    obtain ⟨al, so⟩ := alike_keys hal (js := js) fun k hk => (hm k).mp hk
    refine ⟨p, js.map fun k => (kV k, (kD k).py), rfl, by rw [upd_same, List.map_map]; rfl, fun y hy => ?_, by rw [List.map_map]; exact al, by rw [List.map_map]; exact .inl so, fun y hy => ?_, fun q' zs' pz hq => ?_⟩
    · obtain ⟨k, _, rfl⟩ := List.mem_map.mp hy
      cases k with
      | inl i => simp only [kV, kD, D.py]; exact .int i
      | inr i => simp only [kV, kD, D.py]; exact .str i
    · obtain ⟨k, _, rfl⟩ := List.mem_map.mp hy
      cases k <;> simp [kD, D.py, PyData.depth]
    · obtain ⟨js', e1, e2⟩ := ss_keys hn hm pz
      rw [e2]
      refine q _ _ ?_
      rw [hz, e1]
      refine R2.newLst hq (repsK js') ?_
      rw [← e1]
      exact Nat.le_trans (ssD_len _) hzl
  cases dx with
  | lst ds =>
    simp only [opSS] at h
    split at h
    · rename_i hk
      cases h
      obtain ⟨a, xs, rfl, sq, hz, rs⟩ := rd1_lst.mp rx
      exact main ds a xs hk rfl (.inl (SqL.of sq)) rs rfl hz
    · cases h
  | tup ds =>
    simp only [opSS] at h
    split at h
    · rename_i hk
      cases h
      obtain ⟨a, xs, rfl, sq, hz, rs⟩ := rd1_tup.mp rx
      exact main ds a xs hk rfl (.inr (R.sub.sqT sq.sq)) rs rfl hz
    · cases h
  | _ => cases h
section
variable {C : CF} {Fam : Wd G → Prop} {a b c : Expr} {fa fb fc : M G S} {pos p pos2 p2 : Pos}
theorem d_ss (hm : C.mg "sorted" = none) (hm2 : C.mg "set" = none) (ha : DE C Fam a fa) (hg : ∀ j, Gl (C.X j) "sorted" := by intro _; rfl) (hg2 : ∀ j, Gl (C.X j) "set" := by intro _; rfl)
    (he : ∀ j, starEach [a] (C.X j).env = (false, eval a (C.X j).env) :: starEach [] (C.X j).env := by intro _; rfl) : DE C Fam (.Call (.Name "sorted" p) [.Call (.Name "set" p2) [a] [] pos2] [] pos) (mUn opSS fa) := by
  obtain ⟨ta, pa, ea⟩ := ha.ex
  refine ⟨tUn (rSS C.w C.K) ta, fun j => ?_, fun W h => ev_un (ea W h) b_ss⟩
  have hu := C.un j
  suffices inner : PE (C.X j) (.Call (.Name "set" p2) [a] [] pos2) (tCB (DX.rSetK C.w C.K) (tCons ta tNil)) by
    exact pe_callB (id := "sorted") (r := DX.rSortO C.w C.K) (by rw [← C.hK j, ← C.hw j]; exact DX.cr_sortO (C.calm j) (by omega)) (hg j) (by rw [C.hmg j]; exact hm) (by decide +kernel) (pa_cons inner pa_nil)
  exact pe_callTy (T := "set") (r := DX.rSetK C.w C.K) (by rw [← C.hK j, ← C.hw j]; exact DX.cr_setK (C.calm j) (by omega)) (hg2 j) (by rw [C.hmg j]; exact hm2) (by decide +kernel) (pa_cons (pa j) pa_nil (he j)) (he := he j)
end
end DL
namespace DY
open PySem PySem.Spec PyProof.Rows L2 AutoSeq1
theorem ext_tup (l : Addr) (items : Array Value) (n : Nat) (b : Addr) (items2 : Array Value) (n2 : Nat) (dd : Option Addr) (sl : Array (Option Value)) (hs0 : ¬(!items.isEmpty && Builtin.List.listTooLong (items.size + items2.size)) = true) (hs1 : items.size ≤ sizeLine) (hs2 : items.size + items2.size ≤ sizeLine + 1) :
    Meets (Builtin.«list.extend» ⟨[.ref l, .ref b], []⟩) (fun _ R s => s.heap.get? l = some { cls := .type "list", dict := none, data := .seq items n, slots := #[] } ∧ s.heap.get? b = some ⟨.type "tuple", dd, .seq items2 n2, sl⟩ ∧
      R (.ok (.ret Value.none)) { s with heap := s.heap.update l (Obj.mapSeq fun x => x ++ items2), toks := s.toks }) :=
  .of_wp fun prog w A R s h => by
    obtain ⟨hp, g, d, tk, os⟩ := s
    obtain ⟨hl, hb, h⟩ := h
    have f1 := idx_int
    have f2 := AutoSeq1.sub_tuple_tuple
    have f3 := AutoSeq1.sub_list_list
    have f4 := AutoSeq1.sub_tuple_list
    have f5 := AutoSeq1.sub_list_tuple
    have both : (items ++ items2).size ≤ sizeLine + 1 := by simpa using hs2
    wp_walk using (wpAny_updateSeq hl rfl (hz := hs1) (_hz' := both)), wpAny_loadPart' hl, wpAny_loadPart' hb
    exact ⟨_, rfl, h⟩
def rExtT (K : PySem.W.Frag) : V → List V → Hp → VK → Prop := fun x vs H Q => ∃ l b xs zs, x = .ref l ∧ vs = [.ref b] ∧ H l = some (.lst xs) ∧ SqT K H b zs ∧ xs.length + zs.length ≤ sizeLine ∧ Q .non (upd H l (.lst (xs ++ zs)))
theorem mt_extT {X : Cx} : MtR X "list.extend" (rExtT X.K) := by
  intro pins s σ H x vs v us Q I rx rv h
  obtain ⟨l, b, xs, zs, rfl, rfl, hH, hB, hz, q⟩ := h
  cases rx
  obtain ⟨u, rfl, ru⟩ := rv.one
  cases ru
  obtain ⟨z, its, n, r, hl, e⟩ := I.lstM hH
  obtain ⟨its2, r2, ⟨⟨cls, dd, data, sl⟩, ho, hc, n2, hd⟩, hl2⟩ := I.tuple hB
  simp only at hc hd
  subst hc hd
  have e2 := r2.length
  have few : its.toArray.size + its2.toArray.size ≤ sizeLine := by simp only [List.size_toArray]; omega
  have fits : ¬ (!its.toArray.isEmpty && Builtin.List.listTooLong (its.toArray.size + its2.toArray.size)) = true := by
    have nl := notLongL few
    rw [nl]; simp
  refine call_meets F.slot_list_extend ⟨_, e, rfl⟩ F.entry_list_extend (F.args_list_extend_2 _ _) (ext_tup l its.toArray n b its2.toArray n2 dd sl fits (by rw [List.size_toArray]; omega) (by omega)) ⟨e, ho, ?_⟩
  exact ⟨.non, _, I.lset (its' := its ++ its2) hH e (by simp) (r.append r2) (by rw [List.length_append]; omega), rfl, q⟩
end DY
namespace DL
open PySem PySem.Spec L2
variable {G : Type}
/-! ### slices -/
def EvO (K : PySem.W.Frag) (W : Wd G) (t : TO) (f : M G (Option Int)) : Prop :=
  ∀ (P₀ H₀ : Hp) (σ : L2.St) (st : Sl) (τ : List V) (ts : List S) (H : Hp) (g : G) (o : Option Int) (st' : Sl) (g' : G) (Q : Option Int → Hp → Prop),
    Rel K W P₀ H₀ σ st τ ts H g → f st g = some (o, st', g') → (∀ H', Rel K W P₀ H₀ σ st' τ ts H' g' → Q o H') → t σ H Q
structure DP (C : CF) (Fam : Wd G → Prop) (e : Option Expr) (f : M G (Option Int)) : Prop where
  ex : ∃ t, (∀ j, PO (C.X j) e t) ∧ ∀ W, Fam W → EvO C.K W t f
def mNoP : M G (Option Int) := fun st g => some (none, st, g)
def mPart (f : M G S) : M G (Option Int) := fun st g => bnd (f st g) fun x st g => match x with
  | .sh (.int i) => some (some i, st, g)
  | _ => none
def cutD (xs : List D) (lo hi : Option Int) : List D := (xs.drop (HT.sIx xs.length 0 lo)).take (HT.sIx xs.length xs.length hi - HT.sIx xs.length 0 lo)
theorem Reps.cut {K : PySem.W.Frag} {W : Wd G} {P : Hp} {ds : List D} {vs : List V} (r : Reps K W P ds vs) (lo hi : Option Int) : Reps K W P (cutD ds lo hi) (cutV vs lo hi) := by
  unfold cutD cutV
  rw [r.length]
  exact (r.drop _).take _
theorem cutD_len (xs : List D) (lo hi : Option Int) : (cutD xs lo hi).length ≤ xs.length := by
  unfold cutD
  rw [List.length_take, List.length_drop]; omega
def opSl : D → Option Int → Option Int → Option S
  | .tup ds, l, h => some (.sh (.tup (cutD ds l h)))
  | .lst ds, l, h => some (.ow (.lst (cutD ds l h)))
  | .str x, l, h => if x.length ≤ sizeLine then some (.sh (.str (cutS x l h))) else none
  | _, _, _ => none
def mSl (fa : M G S) (fl fh : M G (Option Int)) : M G S := fun st g =>
  bnd (fa st g) fun x st g => bnd (fl st g) fun l st g => bnd (fh st g) fun h st g => (peek x st).bind fun d => (opSl d l h).map fun z => (z, st, g)
section
variable {C : CF} {Fam : Wd G → Prop} {a b : Expr} {lo hi : Option Expr} {fa fb : M G S} {fl fh : M G (Option Int)} {pos p2 : Pos}
theorem p_none : DP C Fam none mNoP := ⟨_, fun _ => po_none, fun W hW P₀ H₀ σ st τ ts H g o st' g' Q R h q => by
  simp only [mNoP, Option.some.injEq, Prod.mk.injEq] at h; obtain ⟨rfl, rfl, rfl⟩ := h
  exact q H R⟩
theorem p_some (h : DE C Fam a fa) : DP C Fam (some a) (mPart fa) := by
  obtain ⟨ta, pa, ea⟩ := h.ex
  refine ⟨_, fun j => po_some (pa j), fun W hW P₀ H₀ σ st τ ts H g o st' g' Q R h q => ?_⟩
  obtain ⟨x, st1, g1, e1, h⟩ := bnd_eq h
  refine ea W hW _ _ _ _ _ _ _ _ _ _ _ _ R e1 fun v1 H1 R1 => ?_
  cases x with
  | sh d =>
    cases d with
    | int i =>
      simp only [Option.some.injEq, Prod.mk.injEq] at h; obtain ⟨rfl, rfl, rfl⟩ := h
      obtain ⟨P, O, R1⟩ := R1
      have hv : Rep C.K W P (.int i) v1 := R1.temps.1
      rw [rep_int] at hv
      exact ⟨i, hv, q H1 ⟨P, O, R1.pop⟩⟩
    | _ => cases h
  | _ => cases h
theorem d_sl (ha : DE C Fam a fa) (hl : DP C Fam lo fl) (hh : DP C Fam hi fh) : DE C Fam (.Subscript a (.Slice lo hi none p2) pos) (mSl fa fl fh) := by
  obtain ⟨ta, pa, ea⟩ := ha.ex
  obtain ⟨tl, pl, el⟩ := hl.ex
  obtain ⟨th, ph, eh⟩ := hh.ex
  refine ⟨_, fun j => pe_slice (((by rw [← C.hK j]; exact DY.sl_tupF : SlR (C.X j) (DY.rSlF C.K)).or (by rw [← C.hK j]; exact sl_list : SlR (C.X j) (rSlL C.K))).or sl_str) (pa j) (pl j) (ph j), fun W hW P₀ H₀ σ st τ ts H g z st' g' Q R h q => ?_⟩
  obtain ⟨x, st1, g1, e1, h⟩ := bnd_eq h
  obtain ⟨l, st2, g2, e2, h⟩ := bnd_eq h
  obtain ⟨u, st3, g3, e3, h⟩ := bnd_eq h
  obtain ⟨d, e4, h⟩ := Option.bind_eq_some_iff.mp h
  obtain ⟨z', e5, h⟩ := Option.map_eq_some_iff.mp h
  simp only [Prod.mk.injEq] at h; obtain ⟨rfl, rfl, rfl⟩ := h
  refine ea W hW _ _ _ _ _ _ _ _ _ _ _ _ R e1 fun v H1 R1 => ?_
  refine el W hW _ _ _ _ _ _ _ _ _ _ _ _ R1 e2 fun H2 R2 => ?_
  refine eh W hW _ _ _ _ _ _ _ _ _ _ _ _ R2 e3 fun H3 R3 => ?_
  obtain ⟨P, O, R3⟩ := R3
  have rv := R3.peekV e4
  have R4 := R3.pop
  cases d with
  | tup ds =>
    cases e5
    have rv0 := rv
    obtain ⟨pa, xs, rfl, sq, hz, rs⟩ := rd1_tup.mp rv
    refine .inl (.inl ⟨pa, xs, rfl, R4.sub.sqT sq.sq, fun hw => ?_, fun _ p ob hp hd => q _ _ (R4.newTup hp hd (rs.cut l u) (Nat.le_trans (cutD_len _ _ _) hz))⟩)
    have e : cutD ds l u = ds := by
      unfold cutD
      rw [← rs.length, hw.1, hw.2]
      simp [rs.length]
    rw [e] at q
    exact q _ _ (R4.ofSh rv0)
  | lst ds =>
    cases e5
    obtain ⟨pa, xs, rfl, sq, hz, rs⟩ := rd1_lst.mp rv
    exact .inl (.inr ⟨pa, xs, rfl, SqL.of sq, fun p hp => q _ _ (R4.newLst hp (rs.cut l u) (Nat.le_trans (cutD_len _ _ _) hz))⟩)
  | str y =>
    simp only [opSl] at e5
    split at e5
    · rename_i hz
      cases e5
      rw [rd1_str] at rv
      exact .inr ⟨y, rv, hz, q _ _ (R4.ofSh (by simp))⟩
    · cases e5
  | _ => cases e5
end
/-! ### {} -/
def mDNew : M G S := fun st g => some (.ow (.dct []), st, g)
section
variable {C : CF} {Fam : Wd G → Prop} {a b : Expr} {fa fb fk fv : M G S} {pos p1 p2 p3 : Pos}
theorem d_dnew : DE C Fam (.Dict [] [] pos) mDNew := ⟨_, fun _ => pe_dnewK, fun W hW P₀ H₀ σ st τ ts H g z st' g' Q R h q => by
  simp only [mDNew, Option.some.injEq, Prod.mk.injEq] at h; obtain ⟨rfl, rfl, rfl⟩ := h
  obtain ⟨P, O, R⟩ := R
  intro p hp
  obtain ⟨O', R2⟩ := R.laidOwn (d := .dct []) hp ⟨[], ⟨[], rfl, rfl⟩, by simp [Repk]⟩
  exact q _ _ ⟨P, O', R2⟩⟩
/-- a value that is no longer another slot's -/
def hold (s : S) (st : Sl) : Option (S × Sl) :=
  match s with
  | .sh d => some (.sh d, st)
  | .ow d => some (.ow d, st)
  | .at i => (take (.at i) st).map fun p => (.sh p.1, p.2)
  | .any => none
def mHold (f : M G S) : M G S := fun st g => bnd (f st g) fun x st g => (hold x st).map fun p => (p.1, p.2, g)
theorem hold_not {s s' : S} {st st' : Sl} (h : hold s st = some (s', st')) : (∀ j, s' ≠ .at j) ∧ s' ≠ .any := by
  cases s with
  | sh d => cases h; exact ⟨(fun j z => nomatch z), (fun z => nomatch z)⟩
  | ow d => cases h; exact ⟨(fun j z => nomatch z), (fun z => nomatch z)⟩
  | any => cases h
  | «at» i =>
    obtain ⟨p, _, e⟩ := Option.map_eq_some_iff.mp h
    cases e; exact ⟨(fun j z => nomatch z), (fun z => nomatch z)⟩
theorem EvE.hold {K : PySem.W.Frag} {W : Wd G} {t : TE} {f : M G S} (h : EvE K W t f) : EvE K W t (mHold f) := by
  intro P₀ H₀ σ st τ ts H g z st' g' Q R e q
  obtain ⟨x, st1, g1, e1, e⟩ := bnd_eq e
  obtain ⟨⟨y, st2⟩, e2, e⟩ := Option.map_eq_some_iff.mp e
  simp only [Prod.mk.injEq] at e; obtain ⟨rfl, rfl, rfl⟩ := e
  refine h _ _ _ _ _ _ _ _ _ _ _ _ R e1 fun v H1 R1 => q v H1 ?_
  cases x with
  | sh d => cases e2; exact R1
  | ow d => cases e2; exact R1
  | any => cases e2
  | «at» i =>
    obtain ⟨⟨d, st3⟩, e3, e4⟩ := Option.map_eq_some_iff.mp e2
    cases e4
    obtain ⟨P, O, R1⟩ := R1
    obtain ⟨P', O', R2⟩ := R1.takeV e3
    exact ⟨P', O', R2⟩
/-- x, y = a, b -/
def mPar (i j : Nat) (fa fb : M G S) : M G Fl := fun st g => bnd (mHold fa st g) fun x st g => bnd (mHold fb st g) fun y st g =>
  if i < st.length ∧ j < st.length then some (.nx, (st.set j (some y)).set i (some x), g) else none
theorem mHold_not {f : M G S} {st st' : Sl} {g g' : G} {s' : S} (h : mHold f st g = some (s', st', g')) : (∀ j, s' ≠ .at j) ∧ s' ≠ .any := by
  obtain ⟨x, st1, g1, e1, e⟩ := bnd_eq h
  obtain ⟨⟨y, st2⟩, e2, e⟩ := Option.map_eq_some_iff.mp e
  simp only [Prod.mk.injEq] at e; obtain ⟨rfl, rfl, rfl⟩ := e
  exact hold_not e2
theorem NoAt.cons {s : S} {ts : List S} (h : ∀ j, s ≠ .at j) (n : NoAt ts) : NoAt (s :: ts) := fun i z => by
  rcases List.mem_cons.mp z with e | z
  · exact h i e.symm
  · exact n i z
theorem par_core {K : PySem.W.Frag} {W : Wd G} {P₀ H₀ P H : Hp} {O : Addr → Option Tag} {σ : L2.St} {st : Sl} {τ : List V} {ts : List S} {g : G} {v u : V} {x y : S} {i j : Nat} (R : RelB K W P₀ H₀ P O σ st (u :: v :: τ) (y :: x :: ts) H g) (hij : i ≠ j) (n : NoAt ts)
    (hx : (∀ j, x ≠ .at j) ∧ x ≠ .any) (hy : (∀ j, y ≠ .at j) ∧ y ≠ .any) (hi : i < st.length) (hj : j < st.length) : Rel K W P₀ H₀ ((σ.set i (some v)).set j (some u)) ((st.set j (some y)).set i (some x)) τ ts H g := by
  obtain ⟨O1, R1⟩ := R.store (i := j) hy.1 hy.2 (n.cons hx.1) (by rw [← R.len]; exact hj)
  obtain ⟨O2, R2⟩ := R1.store (i := i) hx.1 hx.2 n (by rw [List.length_set, ← R.len]; exact hi)
  rw [List.set_comm _ _ hij.symm] at R2
  exact ⟨P, O2, R2⟩
theorem ev_par {K : PySem.W.Frag} {W : Wd G} {ta tb : TE} {i j : Nat} (ea : EvE K W ta fa) (eb : EvE K W tb fb) (hij : i ≠ j) : EvS K W (tPar i j (tCons ta (tCons tb tNil))) (mPar i j fa fb) := by
  intro P₀ H₀ σ st τ ts H g fl st' g' E n R h q
  obtain ⟨x, st1, g1, e1, h⟩ := bnd_eq h
  obtain ⟨y, st2, g2, e2, h⟩ := bnd_eq h
  split at h
  · rename_i hl
    simp only [Option.some.injEq, Prod.mk.injEq] at h; obtain ⟨rfl, rfl, rfl⟩ := h
    refine ea.hold _ _ _ _ _ _ _ _ _ _ _ _ R e1 fun v H1 R1 => ?_
    refine eb.hold _ _ _ _ _ _ _ _ _ _ _ _ R1 e2 fun u H2 R2 => ?_
    obtain ⟨P, O, R2⟩ := R2
    exact ⟨v, u, rfl, q _ _ (par_core R2 hij n (mHold_not e1) (mHold_not e2) hl.1 hl.2)⟩
  · cases h
/-- both names are plain locals -/
theorem d_par (i j : Nat) {x y : Str} {px py pt pt2 : Pos} {kt k2 : Nat} (ha : DE C Fam a fa) (hb : DE C Fam b fb) (hi : C.N[i]? = some x := by rfl) (hj : C.N[j]? = some y := by rfl) (hij : i ≠ j := by decide)
    (hx : ∀ j, (C.X j).env.scope.names.lookup x = some .local := by intro _; rfl) (hy : ∀ j, (C.X j).env.scope.names.lookup y = some .local := by intro _; rfl)
    (hw : ∀ j, swappedStores [.Tuple [.Name x px, .Name y py] kt pt] (.Tuple [a, b] k2 pt2) (C.X j).env = pure (some [x, y]) := by intro _; rfl) (hs : ∀ j, swapsWithSole [.Tuple [.Name x px, .Name y py] kt pt] (.Tuple [a, b] k2 pt2) pos.line (C.X j).env = pure false := by intro _; rfl)
    (he : ∀ j, starEach [a, b] (C.X j).env = (false, eval a (C.X j).env) :: starEach [b] (C.X j).env := by intro _; rfl) (he2 : ∀ j, starEach [b] (C.X j).env = (false, eval b (C.X j).env) :: starEach [] (C.X j).env := by intro _; rfl) :
    DS C Fam (.Assign [.Tuple [.Name x px, .Name y py] kt pt] (.Tuple [a, b] k2 pt2) pos) (mPar i j fa fb) := by
  obtain ⟨ta, pa, ea⟩ := ha.ex
  obtain ⟨tb, pb, eb⟩ := hb.ex
  exact ⟨_, fun l => ps_par (C.calm l) (C.nd' l) (by rw [C.hN l]; exact hi) (by rw [C.hN l]; exact hj) hij (hx l) (hy l) (pa_cons (pa l) (pa_cons (pb l) pa_nil (he2 l)) (he l)) (hw l) (hs l), fun W hW => ev_par (ea W hW) (eb W hW) hij⟩
/-- by a pair, as one name is a cell -/
theorem d_parT (i j : Nat) {x y : Str} {px py pt pt2 : Pos} {kt k2 : Nat} (ha : DE C Fam a fa) (hb : DE C Fam b fb) (hi : C.N[i]? = some x := by rfl) (hj : C.N[j]? = some y := by rfl) (hij : i ≠ j := by decide)
    (hx : ∀ j, Loc (C.X j).env.scope x := by intro _; first | exact Or.inl rfl | exact Or.inr rfl) (hy : ∀ j, Loc (C.X j).env.scope y := by intro _; first | exact Or.inl rfl | exact Or.inr rfl)
    (hfx : ∀ j, (C.X j).fn x = true ∨ (C.X j).env.scope.names.lookup x = some .local := by intro _; first | exact .inl rfl | exact .inr rfl) (hfy : ∀ j, (C.X j).fn y = true ∨ (C.X j).env.scope.names.lookup y = some .local := by intro _; first | exact .inl rfl | exact .inr rfl)
    (hs : ∀ j, swapsWithSole [.Tuple [.Name x px, .Name y py] kt pt] (.Tuple [a, b] k2 pt2) pos.line (C.X j).env = pure false := by intro _; rfl) (hw : ∀ j, swappedStores [.Tuple [.Name x px, .Name y py] kt pt] (.Tuple [a, b] k2 pt2) (C.X j).env = pure none := by intro _; rfl)
    (he : ∀ j, starEach [a, b] (C.X j).env = (false, eval a (C.X j).env) :: starEach [b] (C.X j).env := by intro _; rfl) (he2 : ∀ j, starEach [b] (C.X j).env = (false, eval b (C.X j).env) :: starEach [] (C.X j).env := by intro _; rfl) :
    DS C Fam (.Assign [.Tuple [.Name x px, .Name y py] kt pt] (.Tuple [a, b] k2 pt2) pos) (mPar i j fa fb) := by
  obtain ⟨ta, pa, ea⟩ := ha.ex
  obtain ⟨tb, pb, eb⟩ := hb.ex
  refine ⟨tAsg (tTup (tCons ta (tCons tb tNil))) (gTup C.K 2 (gCons (gName i) (gCons (gName j) gNil))), fun l => ?_, fun W hW => ?_⟩
  · refine ps_asg (pe_tup (pa_cons (pa l) (pa_cons (pb l) pa_nil (he2 l)) (he l))) ?_ (hs l) (hw l) rfl
    rw [← C.hK l]
    exact pg_tup (C.calm l) (pgs_cons (pg_name (C.nd' l) (by rw [C.hN l]; exact hi) (hx l) (hfx l)) (pgs_cons (pg_name (C.nd' l) (by rw [C.hN l]; exact hj) (hy l) (hfy l)) pgs_nil rfl) rfl) rfl rfl
  · intro P₀ H₀ σ st τ ts H g fl st' g' E n R h q
    obtain ⟨x, st1, g1, e1, h⟩ := bnd_eq h
    obtain ⟨y, st2, g2, e2, h⟩ := bnd_eq h
    split at h
    · rename_i hl
      simp only [Option.some.injEq, Prod.mk.injEq] at h; obtain ⟨rfl, rfl, rfl⟩ := h
      refine (ea W hW).hold _ _ _ _ _ _ _ _ _ _ _ _ R e1 fun v H1 R1 => ?_
      refine (eb W hW).hold _ _ _ _ _ _ _ _ _ _ _ _ R1 e2 fun u H2 R2 => ?_
      obtain ⟨P, O, R2⟩ := R2
      refine ⟨by rw [sizeLine_eq]; simp, fun p hp => ⟨p, [v, u], rfl, SqT.of upd_same, rfl, v, [u], rfl, u, [], rfl, rfl, ?_⟩⟩
      exact q _ _ (par_core (R2.waste hp) hij n (mHold_not e1) (mHold_not e2) hl.1 hl.2)
    · cases h
/-! ### d[k] = v, the dict being of slot i -/
def mAt (i : Nat) : M G S := fun st g => match st[i]? with
  | some (some (.ow _)) => some (.at i, st, g)
  | _ => none
theorem mAt_var {i : Nat} {st : Sl} {g : G} {r} (h : mAt i st g = some r) : mVar i st g = some r ∧ r.1 = .at i := by
  unfold mAt at h
  unfold mVar
  split at h
  · rename_i d e
    cases h
    simp [e]
  · cases h
def mDPut (i : Nat) (fk fv : M G S) : M G Fl := fun st g => bnd (mTake fv st g) fun dv st g => bnd (mAt i st g) fun _ st g => bnd (fk st g) fun k st g => (peek k st).bind fun dk =>
  match st[i]?, keyD dk with
  | some (some (.ow (.dct kvs))), some _ => if kvs.length < sizeLine then some (.nx, st.set i (some (.ow (.dct (dput kvs dk dv)))), g) else none
  | _, _ => none
theorem d_dput (i : Nat) {x : Str} (hv : DE C Fam b fv) (hk : DE C Fam a fk) (hN : C.N[i]? = some x := by rfl) (hvis : ∀ j, Vis (C.X j).env.scope x := by intro _; first | exact Or.inl rfl | exact Or.inr (Or.inl rfl) | exact Or.inr (Or.inr rfl)) (hd : (x == ("__debug__" : Str)) = false := by decide)
    (hcd : (x == ("__classdict__" : Str)) = false := by decide) (hs : ∀ j, swapsWith b (some (.Subscript (.Name x p1) a p2)) pos.line (C.X j).env = pure false := by intro _; rfl) : DS C Fam (.Assign [.Subscript (.Name x p1) a p2] b pos) (mDPut i fk fv) := by
  obtain ⟨ta, pa, ea⟩ := hk.ex
  obtain ⟨tb, pb, eb⟩ := hv.ex
  refine ⟨_, fun l => ps_dput (by have := C.un l; omega) (pe_var (i := i) (by rw [C.hN l]; exact hN) (hvis l) hd hcd) (pa l) (pb l) (hs l), fun W hW => ?_⟩
  intro P₀ H₀ σ st τ ts H g fl st' g' E n R h q
  obtain ⟨dv, st1, g1, e1, h⟩ := bnd_eq h
  obtain ⟨y, st2, g2, e2, h⟩ := bnd_eq h
  obtain ⟨k, st3, g3, e3, h⟩ := bnd_eq h
  obtain ⟨dk, e4, h⟩ := Option.bind_eq_some_iff.mp h
  obtain ⟨z, st0, e5, e6⟩ := mTake_eq e1
  refine eb W hW _ _ _ _ _ _ _ _ _ _ _ _ R e5 fun v H1 R1 => ?_
  obtain ⟨P, O, R1⟩ := R1
  obtain ⟨P', O', R1⟩ := R1.takeV e6
  refine ev_var i _ _ _ _ _ _ _ _ _ _ _ _ ⟨P', O', R1⟩ (mAt_var e2).1 fun u H2 R2 => ?_
  refine ea W hW _ _ _ _ _ _ _ _ _ _ _ _ R2 e3 fun kv H3 R3 => ?_
  obtain ⟨P, O, R3⟩ := R3
  cases hi : st3[i]? with
  | none => rw [hi] at h; cases h
  | some s =>
    rw [hi] at h
    cases s with
    | none => cases h
    | some s =>
      cases s with
      | ow d =>
        cases d with
        | dct kvs =>
          cases hkk : keyD dk with
          | none => rw [hkk] at h; cases h
          | some kk =>
            rw [hkk] at h
            simp only at h
            split at h
            · rename_i hlen
              simp only [Option.some.injEq, Prod.mk.injEq] at h; obtain ⟨rfl, rfl, rfl⟩ := h
              have rk := R3.peekV e4
              have ek := rd1_key hkk rk
              have hdk := kD_of hkk
              subst ek hdk
              have rv : Rep C.K W P dv v := R3.temps.2.2.1
              obtain ⟨w', ew, _, a', o, rfl, eO, eH, ks, ⟨ks', rfl, rfl⟩, rp⟩ := R3.slot hi
              have hu : u = .ref a' := by
                have hs : SOk C.K W P O H3 σ (.tmp (v :: τ).length) u y := R3.temps.2.1
                have hy : y = .at i := (mAt_var e2).2
                subst hy
                have : σ[i]? = some (some u) := hs
                rw [ew] at this; cases this; rfl
              subst hu
              have R4 := R3.pop.pop.pop.write (o := .dK []) hi ew (o' := .dK (putK ks' kk v)) (d' := .dct (dput kvs (kD kk) dv)) ⟨_, ⟨_, rfl, rfl⟩, rp.put rv kk⟩
              exact ⟨a', _, rfl, DPut.k eH (by have := rp.length; simp at this; omega), q _ _ ⟨P, O, R4⟩⟩
            · cases h
        | _ => cases h
      | _ => cases h
end
end DL
namespace DY
open PySem PySem.Spec PyProof.Rows L2
/-- dict(t), t a tuple of pairs -/
def rDictT (K : PySem.W.Frag) : List V → Hp → VK → Prop := fun xs H Q => ∃ (a : Addr) (ps : List Addr) (kvs : List (Key × V)), xs = [.ref a] ∧ TupP K H a (ps.map V.ref) ∧ Paired (fun p kv => SqT K H p [kV kv.1, kv.2]) ps kvs ∧
  ∀ p, H p = none → Q (.ref p) (upd H p (.dK (mergeK [] kvs)))
theorem refs_eq : ∀ {ps : List Addr} {us : List Value}, Vals (ps.map V.ref) us → us = ps.map Value.ref
  | [], _, .nil => rfl
  | p :: ps, _, .cons r t => by
    cases r
    rw [refs_eq t, List.map_cons]
theorem cr_dictT {X : Cx} (hcalm : X.calm = true) : CallR X (.type "dict") (rDictT X.K) := by
  intro pins s σ H xs us Q I r q
  obtain ⟨a, ps, kvs, rfl, hq, hp, q⟩ := q
  obtain rfl := Vals.ref1 r
  obtain ⟨its, rv, pl, hz⟩ := plain_of I hq
  have ei := refs_eq rv
  subst ei
  rw [List.length_map] at hz
  obtain ⟨prs, rel, hl, hpr⟩ := pairs_of I hp
  have hpr2 : ∀ j : Nat, ∃ u : Value, ∀ q' : Key × Value, prs[j]? = some q' → ∃ b, ps[j]? = some b ∧ IsTup s.heap b #[u, q'.2] ∧ keyIs q'.1 u = true := fun j => by
    cases e : prs[j]? with
    | none => exact ⟨.none, fun q' z => nomatch z⟩
    | some q' =>
      obtain ⟨b, u, e1, e2, e3⟩ := hpr j q' e
      exact ⟨u, fun q'' z => by cases z; exact ⟨b, e1, e2, e3⟩⟩
  obtain ⟨uk, huk⟩ := Classical.axiomOfChoice hpr2
  obtain ⟨prv, hprv⟩ : ∃ prv : List (Value × Value), prv.length = prs.length ∧ ∀ (j : Nat) k v, prv[j]? = some (k, v) → ∃ (q' : Key × Value) (b : Addr), prs[j]? = some q' ∧ ps[j]? = some b ∧ IsTup s.heap b #[k, v] ∧ v = q'.2 ∧ keyIs q'.1 k = true := by
    refine ⟨(List.range prs.length).map fun j => (uk j, ((prs[j]?).map (·.2)).getD .none), by simp, fun j k v e => ?_⟩
    rw [List.getElem?_map] at e
    obtain ⟨i, e1, e2⟩ := Option.map_eq_some_iff.mp e
    have hi := List.getElem?_eq_some_iff.mp e1
    obtain ⟨hlt, hji⟩ := hi
    rw [List.getElem_range] at hji
    subst hji
    rw [List.length_range] at hlt
    have e3 : prs[j]? = some prs[j] := List.getElem?_eq_getElem hlt
    simp only [Prod.mk.injEq, e3, Option.map_some, Option.getD_some] at e2
    obtain ⟨e4, e5⟩ := e2
    obtain ⟨b, h1, h2, h3⟩ := huk j _ e3
    rw [e4] at h2 h3
    exact ⟨_, b, e3, h1, by rw [← e5]; exact h2, e5.symm, h3⟩
  obtain ⟨hlen, hat⟩ := hprv
  refine PySem.call_dict_pairs (knd := mixKind X.prog X.w) (kvs := prs) (PairArg.tuple a (ps.map Value.ref).toArray (fun j => (ps[j]?).getD 0) prv) (I.ok.hd hcalm) ⟨pl, by simp [hlen, hl], fun j k v e => ?_⟩ ⟨hlen.symm, fun i key v e => ?_⟩ (by rw [hlen, hl]; exact hz) fun h' tk hd' k => ?_
  · obtain ⟨q', b, h1, h2, h3, h4, h5⟩ := hat j k v e
    refine ⟨by simp [h2], .inl ?_⟩
    show s.heap.IsTuple ((ps[j]?).getD 0) _
    rw [h2]
    exact h3
  · obtain ⟨q', b, h1, h2, h3, h4, h5⟩ := hat i key v e
    exact ⟨q'.1, by rw [h1, h4], h5⟩
  · have big : (s.heap.objs.size == sysModules) = false := beq_eq_false_iff_ne.mpr (Nat.ne_of_gt I.big)
    have few : (mergeK [] kvs).length ≤ sizeLine := by
      have h1 := length_mergeK kvs []
      have h2 := rel.length
      simp only [List.length_nil] at h1
      omega
    exact ⟨.ref s.heap.objs.size, _, I.laid (t' := tk) (fun b o e => k b o (fun hb => by cases hb) e) (Nat.le_refl _) (show ObjOk X.prog X.w _ _ _ (.dK (mergeK [] kvs)) from ⟨few, big, merged [] prs, KV.merge rel .nil, hd'⟩), rfl, q _ (I.hok.fresh (Nat.le_refl _))⟩
end DY
namespace DL
open PySem PySem.Spec PyProof.Rows L2
variable {G : Type}
/-! ### x.append(e), x.extend(e), x being the list of slot i -/
def opApp : D → D → Option D
  | .lst ds, d => if ds.length < sizeLine then some (.lst (ds ++ [d])) else none
  | _, _ => none
def opExt : D → D → Option D
  | .lst ds, .lst es => if ds.length + es.length ≤ sizeLine then some (.lst (ds ++ es)) else none
  | .lst ds, .tup es => if ds.length + es.length ≤ sizeLine then some (.lst (ds ++ es)) else none
  | _, _ => none
/-- what the method's rule asks, the own thing being at a -/
def BM (K : PySem.W.Frag) (W : Wd G) (T : String) (r : V → List V → Hp → VK → Prop) (op : D → D → Option D) : Prop :=
  ∀ (P H : Hp) (a : Addr) (o : HO) (e d e' : D) (v : V) (Q : VK), Sub P H → P a = none → H a = some o → Own K W P a o e → Rep K W P d v → op e d = some e' → (∀ o', Own K W P a o' e' → Q .non (upd H a o')) → r (.ref a) [v] H Q
section
variable {C : CF} {Fam : Wd G → Prop} {a b : Expr} {fa fb : M G S} {pos p1 p2 : Pos}
/-- a slot that holds an own list -/
def mAtL (i : Nat) : M G S := fun st g => match st[i]? with
  | some (some (.ow (.lst _))) => some (.at i, st, g)
  | _ => none
theorem mAtL_at {i : Nat} {st : Sl} {g : G} {r} (h : mAtL i st g = some r) : mVar i st g = some r ∧ r.1 = .at i ∧ r.2 = (st, g) ∧ ∃ ds, st[i]? = some (some (.ow (.lst ds))) := by
  unfold mAtL at h
  unfold mVar
  split at h
  · rename_i d e
    cases h
    exact ⟨by simp [e], rfl, rfl, d, e⟩
  · cases h
def mMethL (i : Nat) (op : D → D → Option D) (f : M G S) : M G S := fun st g => bnd (mAtL i st g) fun _ st g => bnd (mTake f st g) fun d st g =>
  match st[i]? with
  | some (some (.ow e)) => (op e d).map fun e' => (.sh .non, st.set i (some (.ow e')), g)
  | _ => none
theorem ev_methL {K : PySem.W.Frag} {W : Wd G} {r : V → List V → Hp → VK → Prop} {op : D → D → Option D} {ta : TE} {f : M G S} {i : Nat} (ea : EvE K W ta f) (hb : BM K W "list" r op) : EvE K W (tBM K "list" r (tVar i) (tCons ta tNil)) (mMethL i op f) := by
  intro P₀ H₀ σ st τ ts H g z st' g' Q R h q
  obtain ⟨y, st1, g1, e1, h1⟩ := bnd_eq h
  clear h
  obtain ⟨d, st2, g2, e2, h⟩ := bnd_eq h1
  clear h1
  obtain ⟨m1, m2, m3, ds0, m4⟩ := mAtL_at e1
  simp only at m2
  subst m2
  refine ev_var i _ _ _ _ _ _ _ _ _ _ _ _ R m1 fun u H1 R1 => ?_
  obtain ⟨x, st0, e3, e4⟩ := mTake_eq e2
  simp only [Prod.mk.injEq] at m3
  obtain ⟨rfl, rfl⟩ := m3
  have ty : tyV K "list" u H1 := by
    obtain ⟨P, O, R1⟩ := R1
    obtain ⟨w', ew, _, a', o, rfl, eO, eH, xs, rfl, _⟩ := R1.slot m4
    have : σ[i]? = some (some u) := R1.temps.1
    rw [ew] at this; cases this
    exact .inl ⟨rfl, xs, SqL.of eH⟩
  refine ⟨ty, ?_⟩
  refine ea _ _ _ _ _ _ _ _ _ _ _ _ R1 e3 fun v H2 R2 => ?_
  obtain ⟨P, O, R2⟩ := R2
  obtain ⟨P, O, R2⟩ := R2.takeV e4
  cases hi : st2[i]? with
  | none => rw [hi] at h; cases h
  | some s =>
    rw [hi] at h
    cases s with
    | none => cases h
    | some s =>
      cases s with
      | ow e =>
        obtain ⟨e', e5, h⟩ := Option.map_eq_some_iff.mp h
        simp only [Prod.mk.injEq] at h; obtain ⟨rfl, rfl, rfl⟩ := h
        obtain ⟨w', ew, _, a', o, rfl, eO, eH, ow⟩ := R2.slot hi
        have hu : σ[i]? = some (some u) := R2.temps.2.1
        rw [ew] at hu; cases hu
        refine hb P H2 a' o e d e' v Q R2.sub (R2.own a' _ eO).1 eH ow R2.temps.1 e5 fun o' ow' => ?_
        have R4 := R2.pop.pop.write (o := o) hi ew (o' := o') ow'
        exact q _ _ ⟨P, O, R4.push (by simp)⟩
      | _ => cases h
theorem bm_ext {K : PySem.W.Frag} {W : Wd G} : BM K W "list" (fun x vs H Q => rExtend x vs H Q ∨ DY.rExtT K x vs H Q) opExt := by
  intro P H a o e d e' v Q hs hp eH ow rv h q
  cases e with
  | lst ds =>
    obtain ⟨xs, rfl, hz2, rs⟩ := ow
    cases d with
    | lst es =>
      simp only [opExt] at h
      split at h
      · rename_i hz
        cases h
        have rv : Rep K W P (.lst es) v := rv
        simp only [Rep] at rv
        obtain ⟨b, ys, rfl, eb, _, rs2⟩ := rv
        exact .inl ⟨a, b, xs, ys, rfl, rfl, eH, hs _ _ eb, by rw [rs.length, rs2.length]; exact hz, q _ ⟨_, rfl, by simpa using hz, rs.append rs2⟩⟩
      · cases h
    | tup es =>
      simp only [opExt] at h
      split at h
      · rename_i hz
        cases h
        obtain ⟨b, ys, rfl, sq, _, rs2⟩ := (rd1_tup (H := H)).mp rv
        exact .inr ⟨a, b, xs, ys, rfl, rfl, eH, hs.sqT sq.sq, by rw [rs.length, rs2.length]; exact hz, q _ ⟨_, rfl, by simpa using hz, rs.append rs2⟩⟩
      · cases h
    | _ => cases h
  | _ => cases h
theorem d_ext (i : Nat) {x : Str} (ha : DE C Fam a fa) (hN : C.N[i]? = some x := by rfl) (hvis : ∀ j, Vis (C.X j).env.scope x := by intro _; first | exact Or.inl rfl | exact Or.inr (Or.inl rfl) | exact Or.inr (Or.inr rfl)) (hd : (x == ("__debug__" : Str)) = false := by decide)
    (hcd : (x == ("__classdict__" : Str)) = false := by decide) (hbase : ∀ j, attributeBase (.Name x p1) "extend" (C.X j).env (eval (.Name x p1) (C.X j).env) = eval (.Name x p1) (C.X j).env := by intro _; rfl)
    (hfew : ∀ j, ((backTo pos (starEach [a] (C.X j).env)).all (fun x => !x.1) && (backToKw pos (keywordEach [] (C.X j).env)).all (fun x => x.1.isSome) && decide ([a].length + ([] : List Keyword).length + (if ([] : List Keyword).isEmpty then 0 else 1) < 30)) = true := by intro _; rfl)
    (hline : (p2.endLine == pos.line) = true := by rfl) (he : ∀ j, starEach [a] (C.X j).env = (false, eval a (C.X j).env) :: starEach [] (C.X j).env := by intro _; rfl) : DE C Fam (.Call (.Attribute (.Name x p1) "extend" p2) [a] [] pos) (mMethL i opExt fa) := by
  obtain ⟨ta, pa, ea⟩ := ha.ex
  refine ⟨_, fun j => ?_, fun W hW => ev_methL (ea W hW) bm_ext⟩
  have hm : MtR (C.X j) "list.extend" (fun x vs H Q => rExtend x vs H Q ∨ DY.rExtT C.K x vs H Q) := fun pins s σ H x xs v us Q I rx rv h => by
    rcases h with h | h
    · exact mt_extend pins s σ H x xs v us Q I rx rv h
    · rw [← C.hK j] at h; exact DY.mt_extT pins s σ H x xs v us Q I rx rv h
  have := pe_bm (cpos := pos) (apos := p2) PySem.F.plainAttrs_list PySem.F.slot_list_extend PySem.F.type_list_extend hm (pe_var (i := i) (by rw [C.hN j]; exact hN) (hvis j) hd hcd) (pa_cons (pa j) pa_nil (he j)) (hbase j) (hfew j) hline (he j)
  rw [C.hK j] at this
  exact this
end
/-! ### sorted(d) -/
def leD (a b : D) : Bool := !ltD b a
def msD (l : List D) : List D := l.mergeSort leD
def textsD : List D → Option (List Str)
  | [] => some []
  | .str x :: ds => (textsD ds).map (x :: ·)
  | _ => none
def opSortD : D → Option S
  | .dct kvs => match textsD (kvs.map (·.1)) with
    | some ks => if ks.length < 64 then some (.ow (.lst (msD (kvs.map (·.1))))) else none
    | none => none
  | _ => none
theorem textsD_eq : ∀ {ds : List D} {ks : List Str}, textsD ds = some ks → ds = ks.map D.str
  | [], ks, h => by simp only [textsD, Option.some.injEq] at h; subst h; rfl
  | d :: ds, ks, h => by
    cases d with
    | str x =>
      simp only [textsD] at h
      obtain ⟨ks', e2, rfl⟩ := Option.map_eq_some_iff.mp h
      rw [textsD_eq e2]; rfl
    | _ => cases h
theorem leD_trans {a b c : D} (h : leD a b = true) (h2 : leD b c = true) : leD a c = true := by
  have tot := PySem.W.sortLe_total (listOrd itemOrd) false fun b : D => PySem.W.keyToks b.py
  exact tot.trans a b c h h2
theorem leD_total (a b : D) : (leD a b || leD b a) = true := by
  have tot := PySem.W.sortLe_total (listOrd itemOrd) false fun b : D => PySem.W.keyToks b.py
  rw [Bool.or_eq_true]; exact tot.total a b
theorem ltCps_lt : ∀ a b : List Nat, ltCps a b = decide (a < b)
  | [], [] => by simp [ltCps]
  | [], _ :: _ => by simp [ltCps]
  | _ :: _, [] => by simp [ltCps]
  | a :: r, b :: t => by
    simp only [ltCps, ltCps_lt r t, List.cons_lt_cons_iff]
    by_cases h1 : a < b <;> by_cases h2 : a = b <;> by_cases h3 : r < t <;> simp [h1, h2, h3]
theorem ltD_str (x y : Str) : ltD (.str x) (.str y) = ltCps x.cps.toList y.cps.toList := by
  unfold ltD PySem.W.dataLt
  simp only [D.py, PySem.W.keyToks]
  rw [ltCps_lt]
  by_cases e : x.cps.toList = y.cps.toList
  · rw [e, lex_irrefl]
    simp [List.lt_irrefl]
  · rw [lex_diff (O := itemOrd) (fun q => e (by simpa using q))]
    rfl
theorem rising_pw : ∀ (l : List Str) (p : Str), risingS p l = true → ((p :: l).map D.str).Pairwise fun a b => leD a b = true
  | [], p, _ => by simp
  | x :: r, p, h => by
    simp only [risingS, Bool.and_eq_true] at h
    have ih := rising_pw r x h.2
    rw [List.map_cons, List.pairwise_cons]
    refine ⟨fun y hy => ?_, ih⟩
    have hpx : leD (.str p) (.str x) = true := by unfold leD; rw [ltD_str]; exact h.1
    rw [List.map_cons] at hy ih
    rcases List.mem_cons.mp hy with e | hy
    · rw [e]; exact hpx
    · rw [List.pairwise_cons] at ih
      exact leD_trans hpx (ih.1 y hy)
theorem sortedS_pw {l : List Str} (h : sortedS l = true) : (l.map D.str).Pairwise fun a b => leD a b = true := by
  cases l with
  | nil => exact List.Pairwise.nil
  | cons x r => exact rising_pw r x h
theorem msD_pw (l : List D) : (msD l).Pairwise fun a b => leD a b = true := List.pairwise_mergeSort (le := leD) (fun a b c h1 h2 => leD_trans (a := a) (b := b) (c := c) h1 h2) leD_total l
theorem msD_one {l l' : List D} (hi : InjT l) (hs : l'.Pairwise fun a b => leD a b = true) (hp : l'.Perm l) : l' = msD l := by
  refine List.Perm.eq_of_pairwise (fun a b ha hb h1 h2 => ?_) hs (msD_pw l) (hp.trans (List.mergeSort_perm l leD).symm)
  have ha' : a ∈ l := hp.mem_iff.mp ha
  have hb' : b ∈ l := (List.mergeSort_perm l leD).mem_iff.mp hb
  unfold leD at h1 h2
  exact hi a ha' b hb' (by simpa using h2) (by simpa using h1)
theorem repsS {K : PySem.W.Frag} {W : Wd G} {P : Hp} : ∀ ks : List Str, Reps K W P (ks.map D.str) (ks.map V.str)
  | [] => by simp [Reps]
  | k :: ks => by
    rw [List.map_cons, List.map_cons]
    simp only [Reps]
    exact ⟨_, _, rfl, by simp, repsS ks⟩
theorem repk_keys {K : PySem.W.Frag} {W : Wd G} {P : Hp} : ∀ {kvs : List (D × D)} {ks : List (D × V)}, Repk K W P kvs ks → ks.map (·.1) = kvs.map (·.1)
  | [], ks, h => by simp only [Repk] at h; subst h; rfl
  | (k, d) :: kvs, ks, h => by
    simp only [Repk] at h
    obtain ⟨v, r, rfl, _, h2⟩ := h
    simp [repk_keys h2]
theorem inr_of : ∀ {ks : List Key} {ys : List Str}, ks.map kD = ys.map D.str → ks = ys.map Sum.inr
  | [], [], _ => rfl
  | [], _ :: _, h => by simp at h
  | _ :: _, [], h => by simp at h
  | k :: ks, y :: ys, h => by
    simp only [List.map_cons, List.cons.injEq] at h
    rw [List.map_cons, inr_of h.2]
    cases k with
    | inl i => simp [kD] at h
    | inr i => simp [kD] at h; rw [h.1]
theorem injT_strs (ks : List Str) : InjT (ks.map D.str) := by
  have := injT_keys (ks.map Sum.inr)
  rw [List.map_map] at this
  exact this
section
variable {C : CF} {Fam : Wd G → Prop} {a b : Expr} {fa fb : M G S} {pos p p1 p2 : Pos}
def rSortedD : List V → Hp → VK → Prop := fun xs H Q => ∃ (a : Addr) (kvs : List (Key × V)) (ks : List Str), xs = [.ref a] ∧ Rd H a (.dK kvs) ∧ kvs.map (·.1) = ks.map Sum.inr ∧ ks.length < 64 ∧
    ∀ ys p, ys.Perm ks → sortedS ys = true → H p = none → Q (.ref p) (upd H p (.lst (ys.map V.str)))
theorem b_sortD {K : PySem.W.Frag} {W : Wd G} : B1 K W (fun v => rSortedD [v]) opSortD := by
  intro P₀ H₀ P O σ st τ ts H g x dx z Q R rx h q
  cases dx with
  | dct kvs =>
    simp only [opSortD] at h
    cases e : textsD (kvs.map (·.1)) with
    | none => rw [e] at h; cases h
    | some ks =>
      rw [e] at h
      simp only at h
      split at h
      · rename_i h64
        cases h
        have ek := textsD_eq e
        obtain ⟨a, o, ks1, rfl, eH, ⟨ks', hdk0, rfl⟩, rp⟩ := rx
        have e2 := repk_keys rp
        rw [List.map_map] at e2
        have e3 : (ks'.map (·.1)).map kD = ks.map D.str := by rw [List.map_map, ← ek, ← e2]; rfl
        refine ⟨a, ks', ks, rfl, hdk0.rd eH, inr_of e3, h64, fun ys p hp hs hn => ?_⟩
        have em : ys.map D.str = msD (kvs.map (·.1)) := by
          rw [ek]
          exact msD_one (injT_strs ks) (sortedS_pw hs) (hp.map _)
        refine q _ _ ?_
        rw [← em]
        refine R.newLst hn (repsS ys) ?_
        rw [List.length_map, hp.length_eq, sizeLine_eq]; omega
      · cases h
  | _ => cases h
theorem d_sortD (hm : C.mg "sorted" = none) (ha : DE C Fam a fa) (hg : ∀ j, Gl (C.X j) "sorted" := by intro _; rfl) (he : ∀ j, starEach [a] (C.X j).env = (false, eval a (C.X j).env) :: starEach [] (C.X j).env := by intro _; rfl) : DE C Fam (.Call (.Name "sorted" p) [a] [] pos) (mUn opSortD fa) :=
  d_cb (r := rSortedD) (fun j => call_sortedD (C.calm j)) (fun W _ => b_sortD) (by decide +kernel) hm ha hg (he := he)
end
/-! ### dict(pairs) -/
def pairsD : List D → Option (List (D × D))
  | [] => some []
  | .tup [k, v] :: ds => match keyD k with
    | some _ => (pairsD ds).map ((k, v) :: ·)
    | none => none
  | _ => none
def mergeD (kvs : List (D × D)) : List (D × D) := kvs.foldl (fun acc p => dput acc p.1 p.2) []
def opDict : D → Option S
  | .tup ds => (pairsD ds).map fun ps => .ow (.dct (mergeD ps))
  | .lst ds => (pairsD ds).map fun ps => .ow (.dct (mergeD ps))
  | .dct kvs => some (.ow (.dct kvs))
  | _ => none
theorem merge_rep {K : PySem.W.Frag} {W : Wd G} {P : Hp} : ∀ {ps : List (D × D)} {kvs : List (Key × V)} {acc : List (D × D)} {ac : List (Key × V)}, Repk K W P ps (kvs.map fun p => (kD p.1, p.2)) → Repk K W P acc (ac.map fun p => (kD p.1, p.2)) →
    Repk K W P (ps.foldl (fun acc p => dput acc p.1 p.2) acc) ((mergeK ac kvs).map fun p => (kD p.1, p.2))
  | [], kvs, acc, ac, h, h2 => by
    cases kvs with
    | nil => exact h2
    | cons k kvs => simp [Repk] at h
  | (k, d) :: ps, kvs, acc, ac, h, h2 => by
    cases kvs with
    | nil => simp [Repk] at h
    | cons kv kvs =>
      rw [List.map_cons] at h
      simp only [Repk] at h
      obtain ⟨v, r, e, hr, hr2⟩ := h
      simp only [List.cons.injEq, Prod.mk.injEq] at e
      obtain ⟨⟨e1, e2⟩, e3⟩ := e
      subst e1 e2 e3
      have := merge_rep (ps := ps) (kvs := kvs) hr2 (Repk.put hr kv.1 h2)
      exact this
theorem pairs_rep {K : PySem.W.Frag} {W : Wd G} {P H : Hp} (hs : Sub P H) : ∀ {ds : List D} {ps : List (D × D)} {xs : List V}, pairsD ds = some ps → Reps K W P ds xs → ∃ (as : List Addr) (kvs : List (Key × V)), xs = as.map V.ref ∧ Paired (fun p kv => SqT K H p [kV kv.1, kv.2]) as kvs ∧ Repk K W P ps (kvs.map fun p => (kD p.1, p.2))
  | [], ps, xs, h, r => by
    simp only [pairsD, Option.some.injEq] at h; subst h
    simp only [Reps] at r; subst r
    exact ⟨[], [], rfl, .nil, by simp [Repk]⟩
  | d :: ds, ps, xs, h, r => by
    simp only [Reps] at r
    obtain ⟨v, r', rfl, h1, h2⟩ := r
    match d, h, h1 with
    | .tup [k, dv], h, h1 =>
      simp only [pairsD] at h
      cases hk : keyD k with
      | none => rw [hk] at h; cases h
      | some kk =>
        rw [hk] at h
        obtain ⟨ps', e, rfl⟩ := Option.map_eq_some_iff.mp h
        obtain ⟨as, kvs, rfl, pr, rk⟩ := pairs_rep hs e h2
        simp only [Rep, Reps] at h1
        obtain ⟨a, xs', rfl, sq, _, v1, r1, rfl, q1, v2, r2, rfl, q2, rfl⟩ := h1
        have e1 := rep_key hk q1
        subst e1
        refine ⟨a :: as, (kk, v2) :: kvs, rfl, .cons (hs.sqT sq.sq) pr, ?_⟩
        rw [List.map_cons]
        simp only [Repk]
        exact ⟨v2, _, by rw [kD_of hk], q2, rk⟩
section
variable {C : CF} {Fam : Wd G → Prop} {a b : Expr} {fa fb : M G S} {pos p p1 p2 : Pos}
theorem d_dict (hm : C.mg "dict" = none) (ha : DE C Fam a fa) (hg : ∀ j, Gl (C.X j) "dict" := by intro _; rfl) (he : ∀ j, starEach [a] (C.X j).env = (false, eval a (C.X j).env) :: starEach [] (C.X j).env := by intro _; rfl) : DE C Fam (.Call (.Name "dict" p) [a] [] pos) (mUn opDict fa) :=
  d_ct (fun j => (by have := DY.cr_dictT (X := C.X j) (C.calm j); rw [C.hK j] at this; exact this : CallR (C.X j) (.type "dict") (DY.rDictT C.K)).or ((by have := call_dictP (X := C.X j) (C.calm j); rw [C.hK j] at this; exact this : CallR (C.X j) (.type "dict") _).or (call_dictD (X := C.X j)))) (fun W _ => by
    intro P₀ H₀ P O σ st τ ts H g x dx z Q R rx h q
    cases dx with
    | tup ds =>
      obtain ⟨ps, e, rfl⟩ := Option.map_eq_some_iff.mp h
      obtain ⟨a, xs, rfl, sq, hz, rs⟩ := rd1_tup.mp rx
      obtain ⟨as, kvs, rfl, pr, rk⟩ := pairs_rep R.sub e rs
      refine .inl ⟨a, as, kvs, rfl, sq.mono R.sub, pr, fun p hp => ?_⟩
      obtain ⟨O', R2⟩ := R.laidOwn (d := .dct (mergeD ps)) hp ⟨_, ⟨_, rfl, rfl⟩, merge_rep rk (acc := []) (ac := []) (by simp [Repk])⟩
      exact q _ _ ⟨P, O', R2⟩
    | lst ds =>
      obtain ⟨ps, e, rfl⟩ := Option.map_eq_some_iff.mp h
      obtain ⟨a, xs, rfl, sq, hz, rs⟩ := rd1_lst.mp rx
      obtain ⟨as, kvs, rfl, pr, rk⟩ := pairs_rep R.sub e rs
      refine .inr (.inl ⟨a, as, kvs, rfl, SqL.of sq, pr, fun p hp => ?_⟩)
      obtain ⟨O', R2⟩ := R.laidOwn (d := .dct (mergeD ps)) hp ⟨_, ⟨_, rfl, rfl⟩, merge_rep rk (acc := []) (ac := []) (by simp [Repk])⟩
      exact q _ _ ⟨P, O', R2⟩
    | dct kvs =>
      simp only [opDict, Option.some.injEq] at h; subst h
      simp only [Rd1] at rx
      obtain ⟨a, o, ks, rfl, eo, ⟨kk, hk, rfl⟩, rk⟩ := rx
      refine .inr (.inr ⟨a, kk, rfl, hk.rd eo, fun p hp => ?_⟩)
      obtain ⟨O', R2⟩ := R.laidOwn (d := .dct kvs) hp ⟨_, ⟨_, rfl, rfl⟩, rk⟩
      exact q _ _ ⟨P, O', R2⟩
    | _ => cases h) (by decide +kernel) hm ha hg (he := he)
end
end DL
namespace DL
open PySem PySem.Spec PyProof.Rows L2
variable {G : Type}
/-! ### t[::s] -/
/-! ### names of the module -/
def GC (K : PySem.W.Frag) (mg : Str → Option Value) (x : Str) (d : D) : Prop := ∃ u v, mg x = some u ∧ RelV v u ∧ ∀ (G : Type) (W : Wd G) (P : Hp), Rep K W P d v
theorem GC.int {K : PySem.W.Frag} {mg : Str → Option Value} {x : Str} {i : Int} {t : Tok} (h : mg x = some (.int i t)) : GC K mg x (.int i) := ⟨_, .int i, h, ⟨t, rfl⟩, fun G W P => by simp⟩
theorem GC.str {K : PySem.W.Frag} {mg : Str → Option Value} {x : Str} {i : Str} {t : Tok} (h : mg x = some (.str i t)) : GC K mg x (.str i) := ⟨_, .str i, h, ⟨t, rfl⟩, fun G W P => by simp⟩
section
variable {C : CF} {Fam : Wd G → Prop} {a b e : Expr} {es : List Expr} {fa fb f : M G S} {pos p p1 p2 : Pos}
theorem d_glob {x : Str} {d : D} (h : GC C.K C.mg x d) (hg : ∀ j, Gl (C.X j) x := by intro _; rfl) (hd : (x == ("__debug__" : Str)) = false := by decide) : DE C Fam (.Name x pos) (mC d) := by
  obtain ⟨u, v, h1, h2, h3⟩ := h
  exact ⟨_, fun j => pe_glob (hg j) (by rw [C.hmg j]; exact h1) h2 hd, fun W hW => ev_c fun P => h3 G W P⟩
end
/-! ### the shared things change -/
theorem RelB.world {K : PySem.W.Frag} {W : Wd G} {P₀ H₀ P H H' : Hp} {O : Addr → Option Tag} {σ : L2.St} {st : Sl} {τ : List V} {ts : List S} {g g' : G} (R : RelB K W P₀ H₀ P O σ st τ ts H g) (hH : ∀ a, ¬ W.fp a → H' a = H a) (hw : W.holds g' H') : RelB K W P₀ H₀ P O σ st τ ts H' g' := by
  have oe : ∀ a t, O a = some t → H' a = H a := fun a t h => hH a (R.own a t h).2.2.1
  refine ⟨fun a o h => ?_, fun a o h n => ?_, R.p0, R.new, R.nfp, fun a t h => ?_, hw, R.len, fun i s h => ?_, ?_⟩
  · rw [hH a (R.nfp a (by rw [h]; simp))]; exact R.sub a o h
  · rw [hH a n]; exact R.base a o h n
  · obtain ⟨h1, h2, h3, h4⟩ := R.own a t h
    exact ⟨h1, h2, h3, by rw [oe a t h]; exact h4⟩
  · obtain ⟨v, e1, e2, q⟩ := R.slots i s h
    exact ⟨v, e1, e2, q.mono (Sub.refl P) (fun _ z => z) fun a o z y => by rw [oe a _ z]; exact y⟩
  · exact R.temps.mono (Sub.refl P) (fun _ _ _ z => z) fun a o k _ z y => by rw [oe a _ z]; exact y
/-- read an object of the world -/
def peekW (rd : G → Nat → Option D) (s : S) (st : Sl) (g : G) : Option D :=
  match s with
  | .sh (.obj n) => rd g n
  | s => peek s st
def RdW (K : PySem.W.Frag) (Fam : Wd G → Prop) (rd : G → Nat → Option D) : Prop := ∀ W, Fam W → ∀ (P H : Hp) (g : G) n d, W.holds g H → rd g n = some d → Rd1 K W P H d (W.ref n)
theorem RelB.peekW {K : PySem.W.Frag} {Fam : Wd G → Prop} {rd : G → Nat → Option D} (hr : RdW K Fam rd) {W : Wd G} (hW : Fam W) {P₀ H₀ P H : Hp} {O : Addr → Option Tag} {σ : L2.St} {st : Sl} {τ : List V} {ts : List S} {g : G} {v : V} {s : S} {d : D} (R : RelB K W P₀ H₀ P O σ st (v :: τ) (s :: ts) H g) (h : DL.peekW rd s st g = some d) : Rd1 K W P H d v := by
  by_cases hs : ∃ n, s = .sh (.obj n)
  · obtain ⟨n, rfl⟩ := hs
    have hv : Rep K W P (.obj n) v := R.temps.1
    simp only [Rep] at hv
    subst hv
    exact hr W hW P H g n d R.wld h
  · have : DL.peekW rd s st g = peek s st := by
      unfold DL.peekW
      split
      · rename_i n; exact absurd ⟨n, rfl⟩ hs
      · rfl
    rw [this] at h
    exact R.peekV h
def mOpW (rd : G → Nat → Option D) (op : D → D → Option S) (fa fb : M G S) : M G S := fun st g =>
  bnd (fa st g) fun x st g => bnd (fb st g) fun y st g => (peekW rd x st g).bind fun dx => (peekW rd y st g).bind fun dy => (op dx dy).map fun z => (z, st, g)
def mUnW (rd : G → Nat → Option D) (op : D → Option S) (fa : M G S) : M G S := fun st g =>
  bnd (fa st g) fun x st g => (peekW rd x st g).bind fun dx => (op dx).map fun z => (z, st, g)
theorem ev_opW {K : PySem.W.Frag} {Fam : Wd G → Prop} {rd : G → Nat → Option D} (hr : RdW K Fam rd) {W : Wd G} (hW : Fam W) {ta tb : TE} {fa fb : M G S} {r : R2} {op : D → D → Option S} (ha : EvE K W ta fa) (hb : EvE K W tb fb) (ho : B2 K W r op) : EvE K W (tOp r ta tb) (mOpW rd op fa fb) := by
  intro P₀ H₀ σ st τ ts H g z st' g' Q R h q
  obtain ⟨x, st1, g1, e1, h⟩ := bnd_eq h
  obtain ⟨y, st2, g2, e2, h⟩ := bnd_eq h
  obtain ⟨dx, e3, h⟩ := Option.bind_eq_some_iff.mp h
  obtain ⟨dy, e4, h⟩ := Option.bind_eq_some_iff.mp h
  obtain ⟨z', e5, h⟩ := Option.map_eq_some_iff.mp h
  simp only [Prod.mk.injEq] at h; obtain ⟨rfl, rfl, rfl⟩ := h
  refine ha _ _ _ _ _ _ _ _ _ _ _ _ R e1 fun v1 H1 R1 => ?_
  refine hb _ _ _ _ _ _ _ _ _ _ _ _ R1 e2 fun v2 H2 R2 => ?_
  obtain ⟨P, O, R2⟩ := R2
  exact ho _ _ _ _ _ _ _ _ _ _ _ _ _ _ _ _ R2.pop.pop (RelB.peekW hr hW R2.pop e3) (RelB.peekW hr hW R2 e4) e5 q
theorem ev_unW {K : PySem.W.Frag} {Fam : Wd G → Prop} {rd : G → Nat → Option D} (hr : RdW K Fam rd) {W : Wd G} (hW : Fam W) {ta : TE} {fa : M G S} {r : V → Hp → VK → Prop} {op : D → Option S} (ha : EvE K W ta fa) (ho : B1 K W r op) : EvE K W (tUn r ta) (mUnW rd op fa) := by
  intro P₀ H₀ σ st τ ts H g z st' g' Q R h q
  obtain ⟨x, st1, g1, e1, h⟩ := bnd_eq h
  obtain ⟨dx, e3, h⟩ := Option.bind_eq_some_iff.mp h
  obtain ⟨z', e5, h⟩ := Option.map_eq_some_iff.mp h
  simp only [Prod.mk.injEq] at h; obtain ⟨rfl, rfl, rfl⟩ := h
  refine ha _ _ _ _ _ _ _ _ _ _ _ _ R e1 fun v1 H1 R1 => ?_
  obtain ⟨P, O, R1⟩ := R1
  exact ho _ _ _ _ _ _ _ _ _ _ _ _ _ _ R1.pop (RelB.peekW hr hW R1 e3) e5 q
def opIxL : D → D → Option S
  | .lst ds, .int i => (atI ds i).map S.sh
  | _, _ => none
theorem b_ixL {K : PySem.W.Frag} {W : Wd G} : B2 K W (rIx K) opIxL := by
  intro P₀ H₀ P O σ st τ ts H g x y dx dy z Q R rx ry h q
  cases dx with
  | lst ds =>
    cases dy with
    | int i =>
      rw [rd1_int] at ry
      obtain ⟨a, xs, rfl, sq, hz, rs⟩ := rd1_lst.mp rx
      obtain ⟨d, e6, rfl⟩ := Option.map_eq_some_iff.mp h
      obtain ⟨v, e7, rv⟩ := atI_rep rs e6
      exact .inl ⟨a, xs, i, v, rfl, ry, SqL.of sq, e7, q _ _ (R.ofSh rv)⟩
    | _ => cases h
  | _ => cases dy <;> cases h
section
variable {C : CF} {Fam : Wd G → Prop} {rd : G → Nat → Option D} {a b e : Expr} {fa fb f : M G S} {pos p p1 p2 : Pos}
theorem d_subW (hr : RdW C.K Fam rd) (ha : DE C Fam a fa) (hb : DE C Fam b fb) (hs : PlainIx b := by exact fun _ _ => rfl) : DE C Fam (.Subscript a b pos) (mOpW rd opIxL fa fb) := by
  obtain ⟨ta, pa, ea⟩ := ha.ex
  obtain ⟨tb, pb, eb⟩ := hb.ex
  exact ⟨_, fun j => by rw [← C.hK j]; exact pe_ix ix_seq (pa j) (pb j) hs, fun W h => ev_opW hr h (ea W h) (eb W h) b_ixL⟩
theorem t_neW (hr : RdW C.K Fam rd) (ha : DE C Fam a fa) (hb : DE C Fam b fb) : DT C Fam (.Compare a [.NotEq] [b] pos) (mTest (mOpW rd opNe fa fb)) := by
  obtain ⟨ta, pa, ea⟩ := ha.ex
  obtain ⟨tb, pb, eb⟩ := hb.ex
  exact ⟨_, fun j => pt_cmpR (by rw [← C.hK j]; exact op_neP (by have := C.un j; omega)) (pa j) (pb j) (nobehind _ (by decide) (by decide)), fun W h => ev_test (ev_opW hr h (ea W h) (eb W h) b_ne)⟩
theorem d_lenW (hr : RdW C.K Fam rd) (hm : C.mg "len" = none) (ha : DE C Fam a fa) (hg : ∀ j, Gl (C.X j) "len" := by intro _; rfl) (he : ∀ j, starEach [a] (C.X j).env = (false, eval a (C.X j).env) :: starEach [] (C.X j).env := by intro _; rfl) : DE C Fam (.Call (.Name "len" p) [a] [] pos) (mUnW rd opLen fa) := by
  obtain ⟨ta, pa, ea⟩ := ha.ex
  exact ⟨tUn (fun v => rLen C.K [v]) ta, fun j => pe_callB (r := rLen C.K) (by rw [← C.hK j]; exact call_len.or call_lenR) (hg j) (by rw [C.hmg j]; exact hm) boot_len (pa_cons (pa j) pa_nil (he j)) (he := he j), fun W h => ev_unW hr h (ea W h) b_len⟩
end
end DL
namespace DL
open PySem PySem.Spec PyProof.Rows L2
variable {G : Type}
/-! ### repr -/
def rRepr (K : PySem.W.Frag) : List V → Hp → VK → Prop := fun vs H Q => ∃ v d, vs = [v] ∧ Dp K H v d ∧ d.showable = true ∧ d.hasDict = false ∧ d.depth ≤ 100 ∧ d.shown.length ≤ sizeLine ∧ Q (.str d.shown) H
theorem cr_repr {X : Cx} (hg : X.A.guards = some []) (hu : X.A.units + 150 < cLine) : CallR X (.builtin "repr") (rRepr X.K) := by
  intro pins s σ H vs us Q I rv h
  obtain ⟨v, d, rfl, hd, hs, hn, hz, hl, q⟩ := h
  obtain ⟨u, rfl, ru⟩ := vals1 rv
  obtain ⟨as, r⟩ := Dp.reads I d v u hd ru
  cases r with
  | none => exact PySem.P.repr_of_none ⟨.str _, H, I.tok _, ⟨_, rfl⟩, q⟩
  | bool b => exact PySem.P.repr_of_bool ⟨.str _, H, I.tok _, ⟨_, by cases b <;> rfl⟩, q⟩
  | int n t => exact PySem.P.repr_of_int (by simpa [PyData.showable] using hs) ⟨.str _, H, I.tok _, ⟨_, rfl⟩, q⟩
  | str x t => exact PySem.P.repr_of_str ⟨.str _, H, I.tok _, ⟨_, rfl⟩, q⟩ hl
  | list h1 h2 h3 h4 => exact repr_of_reads' (.list h1 h2 h3 h4) hs (PySem.PyData.noDict_hsm hn) hg (by omega) (fun _ _ e => e) (fun h' u tk k => ⟨.str _, H, I.kept k, ⟨_, rfl⟩, q⟩) hl
  | tuple h1 h2 h3 h4 => exact repr_of_reads' (.tuple h1 h2 h3 h4) hs (PySem.PyData.noDict_hsm hn) hg (by omega) (fun _ _ e => e) (fun h' u tk k => ⟨.str _, H, I.kept k, ⟨_, rfl⟩, q⟩) hl
  | dict h1 h2 h3 h4 h5 => simp [PyData.hasDict] at hn
mutual
theorem D.noDict : ∀ d : D, d.py.hasDict = false
  | .non => rfl
  | .bl _ => rfl
  | .int _ => rfl
  | .str _ => rfl
  | .tup xs => by simp only [D.py, PyData.hasDict]; exact D.noDicts xs
  | .lst xs => by simp only [D.py, PyData.hasDict]; exact D.noDicts xs
  | .dct _ => rfl
  | .dcn _ => rfl
  | .obj _ => rfl
theorem D.noDicts : ∀ ds : List D, PyData.hasDictAll (D.pys ds) = false
  | [] => rfl
  | d :: ds => by simp only [D.pys, PyData.hasDictAll, D.noDict d, D.noDicts ds, Bool.or_self]
end
def okRepr (d : D) : Bool := d.pl && d.py.showable && decide (d.py.depth ≤ 100) && decide (d.py.shown.length ≤ sizeLine)
def opRepr (d : D) : Option S := if okRepr d = true then some (.sh (.str d.py.shown)) else none
theorem b_repr {K : PySem.W.Frag} {W : Wd G} : B1 K W (fun v => rRepr K [v]) opRepr := by
  intro P₀ H₀ P O σ st τ ts H g x dx z Q R rx h q
  unfold opRepr at h
  split at h
  · rename_i hc
    cases h
    simp only [okRepr, Bool.and_eq_true, decide_eq_true_eq] at hc
    exact ⟨x, dx.py, rfl, rx.dp R.sub hc.1.1.1, hc.1.1.2, D.noDict dx, hc.1.2, hc.2, q _ _ (R.ofSh (by simp))⟩
  · cases h
section
variable {C : CF} {Fam : Wd G → Prop} {a b c : Expr} {fa fb fc : M G S} {pos p p2 : Pos}
theorem d_repr (hm : C.mg "repr" = none) (ha : DE C Fam a fa) (hg : ∀ j, Gl (C.X j) "repr" := by intro _; rfl) (he : ∀ j, starEach [a] (C.X j).env = (false, eval a (C.X j).env) :: starEach [] (C.X j).env := by intro _; rfl) : DE C Fam (.Call (.Name "repr" p) [a] [] pos) (mUn opRepr fa) :=
  d_cb (r := rRepr C.K) (fun j => by rw [← C.hK j]; exact cr_repr (C.hgd j) (by have := C.un j; omega)) (fun _ _ => b_repr) (by decide +kernel) hm ha hg (he := he)
end
end DL
namespace DL
open PySem PySem.Spec PyProof.Rows L2
/-- the deck: its great cells, all cells, how many draws were mixed -/
structure Dk where
  big : List Int
  cells : List Int
  turn : Int
  loan : Option (List D) := none
/-- the tables of lambdas stay -/
theorem tabs_keep {T : List (Addr × Str)} {H H' : Hp} (h : LamX.Tabs T H) (e : ∀ p ∈ T, H' p.1 = H p.1) (k : ∀ a o, H a = some o → Cod o → H' a = some o) : LamX.Tabs T H' := fun p hp => by
  obtain ⟨ps, h1, h2, h3⟩ := h p hp
  refine ⟨ps, (e p hp).trans h1, h2, fun pos cv hc => ?_⟩
  obtain ⟨c, e1, e2⟩ := h3 pos cv hc
  exact ⟨c, e1, k _ _ e2 ⟨_, _, rfl⟩⟩
theorem tabs_there {T : List (Addr × Str)} {H : Hp} (h : LamX.Tabs T H) {p : Addr × Str} (hp : p ∈ T) : ∃ ps, H p.1 = some (.tbl ps) := let ⟨ps, h1, _⟩ := h p hp; ⟨ps, h1⟩
theorem tabs_upd {T : List (Addr × Str)} {H : Hp} {a : Addr} {x u : HO} (h : LamX.Tabs T H) (ha : H a = some u) (hu : ¬ Cod u) (hT : ∀ p ∈ T, p.1 ≠ a) : LamX.Tabs T (upd H a x) := tabs_keep h (fun p hp => upd_ne (hT p hp)) (keep_ne ha hu)
def atomV : D → Option V
  | .int i => some (.int i)
  | .non => some .non
  | .str x => some (.str x)
  | .bl b => some (.bl b)
  | _ => none
def atomsV : List D → Option (List V)
  | [] => some []
  | d :: ds => (atomV d).bind fun v => (atomsV ds).map fun vs => v :: vs
/-- the list that is lent lies at la -/
def LoanOk (la : Option Addr) (loan : Option (List D)) (H : Hp) : Prop :=
  match la, loan with
  | none, none => True
  | some a, some l => l.length ≤ sizeLine ∧ ∃ vs, atomsV l = some vs ∧ H a = some (.lst vs)
  | _, _ => False
theorem LoanOk.keep {la : Option Addr} {loan : Option (List D)} {H H' : Hp} (h : LoanOk la loan H) (e : ∀ a, la = some a → H' a = H a) : LoanOk la loan H' := by
  cases la with
  | none => cases loan with
    | none => trivial
    | some l => exact h.elim
  | some a => cases loan with
    | none => exact h.elim
    | some l =>
      obtain ⟨z, vs, e1, e2⟩ := h
      exact ⟨z, vs, e1, (e a rfl).trans e2⟩
/-- the deck, the tables of lambdas T, a list that is lent -/
def deckL (pw : World) (T : List (Addr × Str)) (a0 a1 a2 : Addr) (h01 : a0 ≠ a1) (h02 : a0 ≠ a2) (h12 : a1 ≠ a2) (hT : ∀ p ∈ T, p.1 ≠ a0 ∧ p.1 ≠ a1 ∧ p.1 ≠ a2) (la : Option Addr) (hla : ∀ a, la = some a → a ≠ a0 ∧ a ≠ a1 ∧ a ≠ a2 ∧ ∀ p ∈ T, p.1 ≠ a) : Wd Dk where
  pw := pw
  fp := fun a => a = a0 ∨ a = a1 ∨ a = a2 ∨ (∃ p ∈ T, p.1 = a) ∨ la = some a
  holds := fun g H => H a0 = some (.lst [.ref a1, .ref a2, .int g.turn]) ∧ H a1 = some (.lst (g.big.map V.int)) ∧ H a2 = some (.lst (g.cells.map V.int)) ∧ g.big.length ≤ sizeLine ∧ g.cells.length ≤ sizeLine ∧ LamX.Tabs T H ∧ LoanOk la g.loan H
  ref := fun n => match n with
    | 0 => .ref a0
    | 1 => .ref a1
    | 2 => .ref a2
    | 3 => match la with
      | some a => .ref a
      | none => .non
    | _ => .non
  loc := fun g H H' h e k => by
    rw [e a0 (.inl rfl), e a1 (.inr (.inl rfl)), e a2 (.inr (.inr (.inl rfl)))]
    exact ⟨h.1, h.2.1, h.2.2.1, h.2.2.2.1, h.2.2.2.2.1, tabs_keep h.2.2.2.2.2.1 (fun p hp => e _ (.inr (.inr (.inr (.inl ⟨p, hp, rfl⟩))))) k, h.2.2.2.2.2.2.keep fun a ha => e a (.inr (.inr (.inr (.inr ha))))⟩
  there := fun g H a h ha => by
    rcases ha with rfl | rfl | rfl | ⟨p, hp, rfl⟩ | ha
    · rw [h.1]; simp
    · rw [h.2.1]; simp
    · rw [h.2.2.1]; simp
    · obtain ⟨ps, e⟩ := tabs_there h.2.2.2.2.2.1 hp
      rw [e]; simp
    · subst ha
      have := h.2.2.2.2.2.2
      cases hg : g.loan with
      | none => rw [hg] at this; exact this.elim
      | some l =>
        rw [hg] at this
        obtain ⟨z, vs, _, e⟩ := this
        rw [e]; simp
theorem noLa {T : List (Addr × Str)} {a0 a1 a2 : Addr} : ∀ a, (none : Option Addr) = some a → a ≠ a0 ∧ a ≠ a1 ∧ a ≠ a2 ∧ ∀ p ∈ T, p.1 ≠ a := fun _ h => nomatch h
abbrev deckW (pw : World) (T : List (Addr × Str)) (a0 a1 a2 : Addr) (h01 : a0 ≠ a1) (h02 : a0 ≠ a2) (h12 : a1 ≠ a2) (hT : ∀ p ∈ T, p.1 ≠ a0 ∧ p.1 ≠ a1 ∧ p.1 ≠ a2) : Wd Dk := deckL pw T a0 a1 a2 h01 h02 h12 hT none noLa
/-- the deck, and the tables of lambdas T -/
def DFT (pw : World) (T : List (Addr × Str)) (W : Wd Dk) : Prop := ∃ a0 a1 a2 h01 h02 h12 hT la hla, W = deckL pw T a0 a1 a2 h01 h02 h12 hT la hla
def DF (pw : World) (W : Wd Dk) : Prop := ∃ T, DFT pw T W
def rdD (g : Dk) : Nat → Option D
  | 0 => some (.lst [.obj 1, .obj 2, .int g.turn])
  | 1 => some (.lst (g.big.map D.int))
  | 2 => some (.lst (g.cells.map D.int))
  | _ => none
theorem reps_ints {G : Type} {K : PySem.W.Frag} {W : Wd G} {P : Hp} : ∀ ns : List Int, Reps K W P (ns.map D.int) (ns.map V.int)
  | [] => by simp [Reps]
  | n :: ns => by
    rw [List.map_cons, List.map_cons]
    simp only [Reps]
    exact ⟨_, _, rfl, by simp, reps_ints ns⟩
theorem rdW {K : PySem.W.Frag} {pw : World} : RdW K (DF pw) rdD := by
  intro W hW P H g n d hh hd
  obtain ⟨T, a0, a1, a2, h01, h02, h12, hT, la, hla, rfl⟩ := hW
  obtain ⟨h0, h1, h2, z1, z2, tb, lo⟩ := hh
  match n, hd with
  | 0, hd =>
    cases hd
    refine ⟨a0, _, rfl, h0, by rw [sizeLine_eq]; simp, ?_⟩
    simp only [Reps, Rep]
    exact ⟨_, _, rfl, rfl, _, _, rfl, rfl, _, _, rfl, rfl, rfl⟩
  | 1, hd =>
    cases hd
    exact ⟨a1, _, rfl, h1, by simpa using z1, reps_ints _⟩
  | 2, hd =>
    cases hd
    exact ⟨a2, _, rfl, h2, by simpa using z2, reps_ints _⟩
def wput (g : Dk) : Nat → Int → Int → Option Dk
  | 1, 0, m => match g.big with
    | _ :: r => some { g with big := m :: r }
    | [] => none
  | 0, 2, m => some { g with turn := m }
  | _, _, _ => none
def mPutW (fo fi fv : M Dk S) : M Dk Fl := fun st g => bnd (fv st g) fun x st g => bnd (fo st g) fun o st g => bnd (fi st g) fun i st g =>
  match x, o, i with
  | .sh (.int m), .sh (.obj n), .sh (.int k) => (wput g n k m).map fun g' => (.nx, st, g')
  | _, _, _ => none
def mPopW (fo : M Dk S) : M Dk S := fun st g => bnd (fo st g) fun o st g =>
  match o, g.big with
  | .sh (.obj 1), b :: r => some (.sh (.int b), st, { g with big := r })
  | _, _ => none
section
variable {C : CF} {a b c o i v : Expr} {fo fi fv : M Dk S} {pos p p1 p2 : Pos}
theorem ev_putW {K : PySem.W.Frag} {W : Wd Dk} {pw : World} (hW : DF pw W) {to ti tv : TE} (eo : EvE K W to fo) (ei : EvE K W ti fi) (ev : EvE K W tv fv) : EvS K W (tAsg tv (gSub to ti rSetL)) (mPutW fo fi fv) := by
  intro P₀ H₀ σ st τ ts H g fl st' g' E n R h q
  obtain ⟨x, st1, g1, e1, k1⟩ := bnd_eq h
  clear h
  obtain ⟨oo, st2, g2, e2, k2⟩ := bnd_eq k1
  clear k1
  obtain ⟨ii, st3, g3, e3, h⟩ := bnd_eq k2
  clear k2
  refine ev _ _ _ _ _ _ _ _ _ _ _ _ R e1 fun xv H1 R1 => ?_
  refine eo _ _ _ _ _ _ _ _ _ _ _ _ R1 e2 fun ov H2 R2 => ?_
  refine ei _ _ _ _ _ _ _ _ _ _ _ _ R2 e3 fun iv H3 R3 => ?_
  obtain ⟨P, O, R3⟩ := R3
  split at h
  · rename_i m n k
    obtain ⟨g4, e4, h⟩ := Option.map_eq_some_iff.mp h
    simp only [Prod.mk.injEq] at h; obtain ⟨rfl, rfl, rfl⟩ := h
    have r1 : Rep K W P (.int m) xv := R3.temps.2.2.1
    have r2 : Rep K W P (.obj n) ov := R3.temps.2.1
    have r3 : Rep K W P (.int k) iv := R3.temps.1
    rw [rep_int] at r1 r3
    simp only [Rep] at r2
    subst r1 r2 r3
    have R4 := R3.pop.pop.pop
    obtain ⟨T, a0, a1, a2, h01, h02, h12, hT, la, hla, rfl⟩ := hW
    have hh := R4.wld
    obtain ⟨h0, h1, h2, z1, z2, tb, lo⟩ := hh
    match n, k, e4 with
    | 1, 0, e4 =>
      simp only [wput] at e4
      cases hb : g3.big with
      | nil => rw [hb] at e4; cases e4
      | cons b r =>
        rw [hb] at e4
        cases e4
        refine ⟨a1, _, 0, 0, rfl, rfl, h1, by rw [hb]; simp [ixN], ?_⟩
        refine q _ _ ⟨P, O, R4.world (fun a ha => upd_ne fun e => ha (.inr (.inl e))) ⟨?_, ?_, ?_, ?_, z2, tabs_upd tb h1 cod_lst fun p hp => (hT p hp).2.1, lo.keep fun a ha => upd_ne (hla a ha).2.1⟩⟩
        · rw [upd_ne h01]; exact h0
        · rw [upd_same, hb]; rfl
        · rw [upd_ne (Ne.symm h12)]; exact h2
        · rw [hb] at z1; simpa using z1
    | 0, 2, e4 =>
      cases e4
      refine ⟨a0, _, 2, 2, rfl, rfl, h0, by simp [ixN], ?_⟩
      refine q _ _ ⟨P, O, R4.world (fun a ha => upd_ne fun e => ha (.inl e)) ⟨?_, ?_, ?_, z1, z2, tabs_upd tb h0 cod_lst fun p hp => (hT p hp).1, lo.keep fun a ha => upd_ne (hla a ha).1⟩⟩
      · rw [upd_same]; rfl
      · rw [upd_ne (Ne.symm h01)]; exact h1
      · rw [upd_ne (Ne.symm h02)]; exact h2
  · cases h
theorem d_putW {pw : World} (ho : DE C (DF pw) o fo) (hi : DE C (DF pw) i fi) (hv : DE C (DF pw) v fv) (ha : ∀ j w', assign (.Subscript o i p) (C.X j).env w' = (do
      let ov ← holding [w'] (eval o (C.X j).env)
      let iv ← holding [w', ov] (eval i (C.X j).env)
      standAt p
      holding [w', ov, iv] (setItem ov iv w')
      release [w', ov, iv] []) := by intro _ _; rfl) (hs : ∀ j, swapsWithSole [.Subscript o i p] v pos.line (C.X j).env = pure false := by intro _; rfl) (hw : ∀ j, swappedStores [.Subscript o i p] v (C.X j).env = pure none := by intro _; rfl)
    (h1 : ∀ j, (assignEach [.Subscript o i p] (C.X j).env).map (·.2) = [assign (.Subscript o i p) (C.X j).env] := by intro _; rfl) : DS C (DF pw) (.Assign [.Subscript o i p] v pos) (mPutW fo fi fv) := by
  obtain ⟨to, po, eo⟩ := ho.ex
  obtain ⟨ti, pi, ei⟩ := hi.ex
  obtain ⟨tv, pv, ev⟩ := hv.ex
  exact ⟨_, fun j => ps_asg (pv j) (pg_sub (po j) (pi j) set_list (ha j)) (hs j) (hw j) (h1 j), fun W hW => ev_putW hW (eo W hW) (ei W hW) (ev W hW)⟩
theorem d_popW {k} {pw : World} (ho : DE C (DF pw) o fo) (hbase : ∀ j, attributeBase o "pop" (C.X j).env (eval o (C.X j).env) = eval o (C.X j).env := by intro _; rfl)
    (hfew : ∀ j, ((backTo pos (starEach [.Constant (.int 0) k p1] (C.X j).env)).all (fun x => !x.1) && (backToKw pos (keywordEach [] (C.X j).env)).all (fun x => x.1.isSome) && decide ([Expr.Constant (.int 0) k p1].length + ([] : List Keyword).length + (if ([] : List Keyword).isEmpty then 0 else 1) < 30)) = true := by intro _; rfl)
    (hline : (p2.endLine == pos.line) = true := by rfl) : DE C (DF pw) (.Call (.Attribute o "pop" p2) [.Constant (.int 0) k p1] [] pos) (mPopW fo) := by
  obtain ⟨to, po, eo⟩ := ho.ex
  refine ⟨tBM C.K "list" rPopAt to (tCons (tC (.int 0)) tNil), fun j => by rw [← C.hK j]; exact pe_bm PySem.F.plainAttrs_list PySem.F.slot_list_pop PySem.F.type_list_pop mt_popAt (po j) (pa_cons pe_int pa_nil rfl) (hbase j) (hfew j) hline rfl, fun W hW => ?_⟩
  intro P₀ H₀ σ st τ ts H g z st' g' Q R h q
  obtain ⟨x, st1, g1, e1, h⟩ := bnd_eq h
  refine eo W hW _ _ _ _ _ _ _ _ _ _ _ _ R e1 fun ov H1 R1 => ?_
  obtain ⟨P, O, R1⟩ := R1
  split at h
  · rename_i b r hb
    cases h
    have r2 : Rep C.K W P (.obj 1) ov := R1.temps.1
    simp only [Rep] at r2
    subst r2
    have R2 := R1.pop
    obtain ⟨T, a0, a1, a2, h01, h02, h12, hT, la, hla, rfl⟩ := hW
    obtain ⟨h0, h1, h2, z1, z2, tb, lo⟩ := R2.wld
    rw [hb] at h1 z1
    refine ⟨.inl ⟨rfl, _, SqL.of h1⟩, a1, _, 0, 0, .int b, rfl, rfl, h1, by decide, by decide, by simp [seqIndex?], rfl, ?_⟩
    refine q _ _ (RelB.ofSh (P := P) (O := O) (R2.world (fun a ha => upd_ne fun e => ha (.inr (.inl e))) ⟨?_, ?_, ?_, ?_, z2, tabs_upd tb h1 cod_lst fun p hp => (hT p hp).2.1, lo.keep fun a ha => upd_ne (hla a ha).2.1⟩) (by simp))
    · rw [upd_ne h01]; exact h0
    · rw [upd_same]; rfl
    · rw [upd_ne (Ne.symm h12)]; exact h2
    · simp at z1; show r.length ≤ sizeLine; omega
  · cases h
end
/-! ### a new deck -/
def deck0 (ns : List Int) : Dk := ⟨(ns.map fun n => if n < 0 then -n else n).filter fun n => decide ((10 : Int) ^ 18 ≤ n), (ns.map fun n => if n < 0 then -n else n) ++ [(ns.length : Int) + 5], 0, none⟩
end DL
namespace DL
open PySem PySem.Spec PyProof.Rows L2
theorem funOf {K : PySem.W.Frag} {x : Str} {st : Stmt} {f : Addr} {fd : FuncData} (F : FunD K x x (defArgs st) (defBody st) (defScope st) [] [] f fd) : Fun K x x st f fd := by
  obtain ⟨oc, od, dV, kV, doc, pm, an, cdv, ct, osl, rfl, lk, hcd, hD, _⟩ := F.ex
  rcases hD with ⟨_, rfl⟩ | ⟨e, _⟩
  · exact ⟨⟨oc, od, kV, doc, pm, an, cdv, ct, osl, rfl, lk, hcd⟩, F.kp⟩
  · exact absurd rfl e
theorem walkGE {l : PySem.W.OpenLaw} {n k : Nat} {q : Program} {loose : List Str} {XP : (Str → Option Value) → Heap → Prop} {YP : World → Heap → Prop} {d : DefRec} {x : Str}
    (hn : l.most = some n) (hn2 : n ≤ sizeLine) (hdf : d.params.defaults = []) (hr : Room k callerA)
    (F : ∀ (w : World) (mg : Str → Option Value) (fa : Addr) (h : Heap), YP w h → h.Ns mainGlobals mg → mg d.name = some (.ref fa) →
      ∃ (K : PySem.W.Frag) (fd : FuncData) (sp : Sp), K.In h ∧ (∀ (s : Shared) (u : Value), BindsTo s fd ⟨[u], []⟩ [(x, u)]) ∧
        (∀ (H : Hp) (a : Addr) (ns : List Int), ns.length ≤ n → Only H → SqL K H a (ns.map V.int) → sp [.ref a] H (fun v _ => v = .bl true) fun _ _ _ => False) ∧
        ∀ base : Heap, K.In base → base.Ns mainGlobals mg → DZ.FnG l.prog w K mg base CX0 k fa fd [x] sp) :
    PySem.W.WalkO q loose XP YP l.row.toRowW d [] (fun f vs => PySem.call f vs) := by
  refine Att.attach_call hn hdf fun w s₀ s₁ mg mb fa o pm cd doc a vs ns G Y ho hd hcd hmg hobj hints hlen hg => ?_
  obtain ⟨K, fd, sp, KX, hb, hsp, hF⟩ := F w mg fa _ Y G.T.g hmg
  exact DZ.law_callG KX G.T.g G.T.b G.T.builtins G.T.nolimit hg hobj hints (Nat.le_trans hlen hn2) hr hF hb fun H hO hS => hsp H a ns hlen hO hS
/-! ### the script as a world -/
def SqW (K : PySem.W.Frag) (ns : List Int) (W : Wd Unit) : Prop := ns.length ≤ sizeLine ∧ ∃ a, W.ref 0 = .ref a ∧ ∀ g H, W.holds g H → SqL K H a (ns.map V.int)
def mScr (i : Nat) (ns : List Int) : M Unit (List D × List S) := fun st g => match st[i]? with
  | some (some (.sh (.obj 0))) => some ((ns.map D.int, [.sh (.obj 0)]), st, g)
  | _ => none
theorem i_scr {C : CF} {tg : Expr} {ns : List Int} (i : Nat) {x : Str} {p : Pos} (hN : C.N[i]? = some x := by rfl) (hvis : ∀ j, Vis (C.X j).env.scope x := by intro _; first | exact Or.inl rfl | exact Or.inr (Or.inl rfl) | exact Or.inr (Or.inr rfl)) (hd : (x == ("__debug__" : Str)) = false := by decide)
    (hcd : (x == ("__classdict__" : Str)) = false := by decide) : DI C (SqW C.K ns) false tg (.Name x p) (mScr i ns) := by
  refine ⟨iList C.K (tVar i), fun j => by rw [← C.hK j]; exact pi_list (pe_var (i := i) (by rw [C.hN j]; exact hN) (hvis j) hd hcd), fun W hW P₀ H₀ σ st τ ts H g items cells st' g' R Rl h q => ?_⟩
  unfold mScr at h
  split at h
  · rename_i e
    simp only [Option.some.injEq, Prod.mk.injEq] at h; obtain ⟨⟨rfl, rfl⟩, rfl, _⟩ := h
    obtain ⟨hz, a, ea, hh⟩ := hW
    obtain ⟨P, O, Rl⟩ := Rl
    obtain ⟨v, e1, e2, rv⟩ := Rl.slot e
    have rv : Rep C.K W P (.obj 0) v := rv
    simp only [Rep] at rv
    rw [ea] at rv
    subst rv
    have sq := hh g H Rl.wld
    refine ⟨.ref a, e1, a, rfl, ⟨_, sq⟩, q _ [.ref a] H ⟨P, O, Rl.push (by simp only [Rep]; exact ea.symm)⟩ ?_⟩
    refine ⟨by simpa using hz, rfl, noAt_sh _, fun P₀ H₀ σ st ρ rs τ ts H g hl R => ?_⟩
    obtain ⟨P, O, R⟩ := R
    have sq' := hh g H R.wld
    refine ⟨fun i d e => ?_, fun i hi => ⟨_, sq', by simpa using hi⟩⟩
    rw [List.getElem?_map] at e
    obtain ⟨n, en, rfl⟩ := Option.map_eq_some_iff.mp e
    have ex : (ns.map V.int)[i]? = some (.int n) := by rw [List.getElem?_map, en]; rfl
    refine ⟨⟨_, _, sq', ex⟩, fun y H' ⟨e1, e2⟩ => ?_⟩
    subst e1
    have : some (V.int n) = some y := ex.symm.trans (e2 _ sq')
    cases this
    exact ⟨P, O, R, by simp [RepF]⟩
  · cases h
/-- the two worlds of a script -/
def scrK (pw : World) (T : List (Addr × Str)) (a : Addr) : Wd Unit where
  pw := pw
  fp := fun b => ∃ p ∈ T, p.1 = b
  holds := fun _ H => LamX.Tabs T H
  ref := fun _ => .ref a
  loc := fun _ _ _ h e k => tabs_keep h (fun p hp => e _ ⟨p, hp, rfl⟩) k
  there := fun _ _ _ h ⟨p, hp, e⟩ => by obtain ⟨ps, z⟩ := tabs_there h hp; rw [← e, z]; simp
def scrF (pw : World) (T : List (Addr × Str)) (a : Addr) (o : HO) : Wd Unit where
  pw := pw
  fp := fun b => b = a ∨ ∃ p ∈ T, p.1 = b
  holds := fun _ H => H a = some o ∧ LamX.Tabs T H
  ref := fun _ => .ref a
  loc := fun _ H H' h e k => ⟨by rw [e a (.inl rfl)]; exact h.1, tabs_keep h.2 (fun p hp => e _ (.inr ⟨p, hp, rfl⟩)) k⟩
  there := fun _ H b h e => by
    rcases e with e | ⟨p, hp, e⟩
    · rw [e, h.1]; simp
    · obtain ⟨ps, z⟩ := tabs_there h.2 hp; rw [← e, z]; simp
theorem scr_of (pw : World) {T : List (Addr × Str)} {K : PySem.W.Frag} {H : Hp} {a : Addr} {ns : List Int} (tb : LamX.Tabs T H) (h : SqL K H a (ns.map V.int)) (hz : ns.length ≤ sizeLine) : ∃ W, SqW K ns W ∧ W.ref 0 = .ref a ∧ W.holds () H ∧ ∀ H', W.holds () H' → LamX.Tabs T H' := by
  rcases h with (h | ⟨o, h⟩) | h
  · exact ⟨scrF pw T a _, ⟨hz, a, rfl, fun g H' e => .inl (.inl e.1)⟩, rfl, ⟨h, tb⟩, fun _ h => h.2⟩
  · exact ⟨scrF pw T a _, ⟨hz, a, rfl, fun g H' e => .inl (.inr ⟨o, e.1⟩)⟩, rfl, ⟨h, tb⟩, fun _ h => h.2⟩
  · exact ⟨scrK pw T a, ⟨hz, a, rfl, fun g H' e => .inr h⟩, rfl, tb, fun _ h => h⟩
/-! ### _law_deck -/
def spDeckT (T : List (Addr × Str)) (K : PySem.W.Frag) : Sp := fun vs H Q _ => ∃ (a : Addr) (ns : List Int), vs = [.ref a] ∧ SqL K H a (ns.map V.int) ∧ ns.length ≤ 63 ∧ LamX.Tabs T H ∧
  ∀ (pw : World) (H' : Hp) (a0 a1 a2 : Addr) (h01 : a0 ≠ a1) (h02 : a0 ≠ a2) (h12 : a1 ≠ a2) (hT : ∀ p ∈ T, p.1 ≠ a0 ∧ p.1 ≠ a1 ∧ p.1 ≠ a2), (deckW pw T a0 a1 a2 h01 h02 h12 hT).holds (deck0 ns) H' → Q (.ref a0) H'
abbrev spDeck (K : PySem.W.Frag) : Sp := spDeckT [] K
section
variable {P : Program} {w : World} {K : PySem.W.Frag} {mg : Str → Option Value} {base : Heap} {f : Addr} {fd : FuncData} {k : Nat}
theorem deck_of {T : List (Addr × Str)} {x s : Str} {stm s1 : Stmt} {e1 e2 : Expr} {N : List Str} {m1 : List Int → M Unit Fl} {f1 f2 : List Int → M Unit S} {pc pl pr : Pos} {kc} (F : Fun K x x stm f fd) (Sc : FnScope N [s] (defScope stm))
    (hb : defBody stm = [s1, .Return (some (.List [e1, e2, .Constant (.int 0) kc pc] pl)) pr])
    (d1 : ∀ ns, DS (fcx P w K mg base N k x stm f Sc.nd) (SqW K ns) s1 (m1 ns)) (d2 : ∀ ns, DE (fcx P w K mg base N k x stm f Sc.nd) (SqW K ns) e1 (f1 ns)) (d3 : ∀ ns, DE (fcx P w K mg base N k x stm f Sc.nd) (SqW K ns) e2 (f2 ns))
    (hst : ∀ env, starEach [e1, e2, .Constant (.int 0) kc pc] env = (false, eval e1 env) :: starEach [e2, .Constant (.int 0) kc pc] env) (hst2 : ∀ env, starEach [e2, .Constant (.int 0) kc pc] env = (false, eval e2 env) :: starEach [.Constant (.int 0) kc pc] env)
    (hm : ∀ ns : List Int, ns.length ≤ 63 → ∃ st1 st2 st3, m1 ns (some (.sh (.obj 0)) :: List.replicate (N.length - 1) none) () = some (.nx, st1, ()) ∧ f1 ns st1 () = some (.ow (.lst ((deck0 ns).big.map D.int)), st2, ()) ∧ f2 ns st2 () = some (.ow (.lst ((deck0 ns).cells.map D.int)), st3, ())) :
    DZ.FnG P w K mg base CX0 (k + 1) f fd [s] (spDeckT T K) := by
  refine DZ.fnG_of F Sc (fun vs H Q E h => ?_) (fun cdv A outer sh H vs Q E hr hgd h => ?_)
  · obtain ⟨a, ns, rfl, _⟩ := h; rfl
  · obtain ⟨a, ns, rfl, sq, hz, tb, q⟩ := h
    have hz' : ns.length ≤ sizeLine := by rw [sizeLine_eq]; omega
    obtain ⟨W, hW, hr0, hh, htb⟩ := scr_of w tb sq hz'
    obtain ⟨t1, p1, v1⟩ := (d1 ns).ex
    obtain ⟨t2, p2, v2⟩ := (d2 ns).ex
    obtain ⟨t3, p3, v3⟩ := (d3 ns).ex
    obtain ⟨st1, st2, st3, g1, g2, g3⟩ := hm ns hz
    let j : FI k x stm f := ⟨cdv, A, outer, sh, H, E, hr, hgd⟩
    rw [hb]
    refine ⟨_, PSs.nox (pss_cons (p1 j) (pss_one (ps_ret (pe_lst (pa_cons (p2 j) (pa_cons (p3 j) (pa_cons pe_int pa_nil rfl) (hst2 _)) (hst _)))))), ?_⟩
    · have R : RelB K W (fun _ => none) H (fun _ => none) (fun _ => none) (L2.start N [.ref a]) (some (.sh (.obj 0)) :: List.replicate (N.length - 1) none) [] [] H () := by
        refine ⟨(fun _ _ e => nomatch e), (fun _ _ e _ => e), Sub.refl _, fun a e => absurd rfl e, fun a e => absurd rfl e, (fun a t e => nomatch e), hh, by simp [L2.start], fun i s e => ?_, trivial⟩
        cases i with
        | zero =>
          simp only [List.getElem?_cons_zero, Option.some.injEq] at e; subst e
          exact ⟨.ref a, rfl, (fun _ q => nomatch q), by show Rep K W (fun _ => none) (.obj 0) _; simp only [Rep]; exact hr0.symm⟩
        | succ i =>
          simp only [List.getElem?_cons_succ] at e
          have := List.mem_of_getElem? e
          rw [List.mem_replicate] at this
          cases this.2
      have no : NoAt ([] : List S) := fun i z => by cases z
      refine v1 W hW _ _ _ _ _ _ _ _ _ _ _ _ no ⟨_, _, R⟩ g1 fun σ1 H1 R1 => ?_
      refine v2 W hW _ _ _ _ _ _ _ _ _ _ _ _ R1 g2 fun u1 H2 R2 => ?_
      refine v3 W hW _ _ _ _ _ _ _ _ _ _ _ _ R2 g3 fun u2 H3 R3 => ?_
      obtain ⟨P3, O3, R3⟩ := R3
      obtain ⟨a2, o2, rfl, t2, q2, xs2, rfl, z2, r2⟩ := R3.temps.1
      obtain ⟨a1, o1, rfl, t1, q1, xs1, rfl, z1, r1⟩ := R3.temps.2.1
      refine ⟨by rw [sizeLine_eq]; simp, fun p hp => ?_⟩
      have ne : a1 ≠ a2 := fun e => by subst e; rw [t1] at t2; cases t2
      have e1 := intsD_rep (bs := (deck0 ns).big) (by
        have : ∀ l : List Int, intsD (l.map D.int) = some l := by intro l; induction l with | nil => rfl | cons x l ih => simp [intsD, ih]
        exact this _) r1
      have e2 := intsD_rep (bs := (deck0 ns).cells) (by
        have : ∀ l : List Int, intsD (l.map D.int) = some l := by intro l; induction l with | nil => rfl | cons x l ih => simp [intsD, ih]
        exact this _) r2
      subst e1 e2
      have n1 : p ≠ a1 := fun e => by subst e; rw [hp] at q1; cases q1
      have n2 : p ≠ a2 := fun e => by subst e; rw [hp] at q2; cases q2
      have tb3 := htb _ R3.wld
      have far : ∀ x ∈ T, x.1 ≠ p ∧ x.1 ≠ a1 ∧ x.1 ≠ a2 := fun x hx => by
        obtain ⟨ps, ep⟩ := tabs_there tb3 hx
        exact ⟨(fun e => by rw [e, hp] at ep; cases ep), (fun e => by rw [e, q1] at ep; cases ep), (fun e => by rw [e, q2] at ep; cases ep)⟩
      refine q w _ p a1 a2 n1 n2 ne far ⟨?_, ?_, ?_, by simpa using z1, by simpa using z2, tabs_keep tb3 (fun x hx => upd_ne (far x hx).1) (keep_new hp), trivial⟩
      · rw [upd_same]; rfl
      · rw [upd_ne (Ne.symm n1)]; exact q1
      · rw [upd_ne (Ne.symm n2)]; exact q2
/-! ### the law -/
def spTrue (K : PySem.W.Frag) : Sp := fun vs H Q _ => ∃ (a : Addr) (ns : List Int), vs = [.ref a] ∧ SqL K H a (ns.map V.int) ∧ ns.length ≤ 63 ∧ ∀ H', Q (.bl true) H'
theorem law_of {x s dk sd : Str} {stm : Stmt} {rest : List Stmt} {N : List Str} {b : M Dk Fl} {i : Nat} {pd ps pc pp pa : Pos} {fk : Addr} {fdk : FuncData} {kd : Nat} (F : Fun K x x stm f fd) (Sc : FnScope N [s] (defScope stm))
    (hb : defBody stm = .Assign [.Name sd pd] (.Call (.Name dk pc) [.Name s ps] [] pp) pa :: rest)
    (D0 : DZ.FnG P w K mg base CX0 kd fk fdk [s] (spDeck K)) (hmk : mg dk = some (.ref fk)) (hkp : PySem.W.keepIn K (.ref fk) = true) (hbd : Binds K fdk [s] [])
    (dr : DSs (fcx P w K mg base N k x stm f Sc.nd) (DF w) rest b) (hk : kd ≤ k := by decide)
    (hN0 : N[0]? = some s := by rfl) (hNi : N[i]? = some sd := by rfl) (hi0 : i ≠ 0 := by decide) (hgl : ∀ j : FI k x stm f, Gl ((fcx P w K mg base N k x stm f Sc.nd).X j) dk := by intro _; rfl) (hdb : (dk == ("__debug__" : Str)) = false := by decide) (hds : (s == ("__debug__" : Str)) = false := by decide) (hcs : (s == ("__classdict__" : Str)) = false := by decide)
    (hvs : ∀ j : FI k x stm f, Vis ((fcx P w K mg base N k x stm f Sc.nd).X j).env.scope s := by intro _; first | exact Or.inl rfl | exact Or.inr (Or.inl rfl) | exact Or.inr (Or.inr rfl))
    (hx : ∀ j : FI k x stm f, Loc ((fcx P w K mg base N k x stm f Sc.nd).X j).env.scope sd := by intro _; first | exact Or.inl rfl | exact Or.inr rfl) (hs : ∀ j : FI k x stm f, swapsWith (.Call (.Name dk pc) [.Name s ps] [] pp) (some (.Name sd pd)) pa.line ((fcx P w K mg base N k x stm f Sc.nd).X j).env = pure false := by intro _; rfl)
    (hf : ∀ j : FI k x stm f, ((fcx P w K mg base N k x stm f Sc.nd).X j).fn sd = true ∨ ((fcx P w K mg base N k x stm f Sc.nd).X j).env.scope.names.lookup sd = some .local := by intro _; first | exact .inl rfl | exact .inr rfl)
    (hgood : ∀ ns : List Int, ns.length ≤ 63 → ∃ st' g', b ((List.replicate N.length none).set i (some (.sh (.obj 0)))) (deck0 ns) = some (.rt (.bl true), st', g')) :
    DZ.FnG P w K mg base CX0 (k + 1) f fd [s] (spTrue K) := by
  refine DZ.fnG_of F Sc (fun vs H Q E h => ?_) (fun cdv A outer sh H vs Q E hr hgd h => ?_)
  · obtain ⟨a, ns, rfl, _⟩ := h; rfl
  · obtain ⟨a, ns, rfl, sq, hz, q⟩ := h
    obtain ⟨t, p, v⟩ := dr.ex
    obtain ⟨st', g', e⟩ := hgood ns hz
    let j : FI k x stm f := ⟨cdv, A, outer, sh, H, E, hr, hgd⟩
    rw [hb]
    refine ⟨_, PSs.nox (pss_cons (ps_set (i := i) Sc.nd hNi (hx j) (DZ.pe_callG D0 (hr.mono hk) hgd (hgl j) hmk hkp hbd (pass0 (X := (fcx P w K mg base N k x stm f Sc.nd).X j)) (pa_cons (pe_var (i := 0) hN0 (hvs j) hds hcs) pa_nil rfl) hdb rfl rfl) (hs j) (hf j)) (p j)), ?_⟩
    · have hlen : 0 < N.length := by
        cases N with
        | nil => simp at hN0
        | cons _ _ => simp
      have hi : i < N.length := (List.getElem?_eq_some_iff.mp hNi).1
      have s0 : (L2.start N [.ref a])[0]? = some (some (.ref a)) := rfl
      refine ⟨.ref a, s0, a, ns, rfl, sq, hz, (fun _ h => nomatch h), fun _ H' a0 a1 a2 h01 h02 h12 hT hh => ?_⟩
      have R : RelB K (deckW w [] a0 a1 a2 h01 h02 h12 hT) (fun _ => none) H' (fun _ => none) (fun _ => none) ((L2.start N [.ref a]).set i (some (.ref a0))) ((List.replicate N.length none).set i (some (.sh (.obj 0)))) [] [] H' (deck0 ns) := by
        refine ⟨(fun _ _ e => nomatch e), (fun _ _ e _ => e), Sub.refl _, fun a e => absurd rfl e, fun a e => absurd rfl e, (fun a t e => nomatch e), hh, ?_, fun l s e => ?_, trivial⟩
        · simp [L2.start]; omega
        · by_cases hl : l = i
          · subst hl
            rw [List.getElem?_set_self (by simpa using hi)] at e
            simp only [Option.some.injEq] at e; subst e
            exact ⟨.ref a0, List.getElem?_set_self (by simp [L2.start]; omega), (fun _ q => nomatch q), by show Rep K (deckW w [] a0 a1 a2 h01 h02 h12 hT) (fun _ => none) (.obj 0) _; simp only [Rep]; rfl⟩
          · rw [List.getElem?_set_ne (Ne.symm hl)] at e
            have := List.mem_of_getElem? e
            rw [List.mem_replicate] at this
            cases this.2
      have no : NoAt ([] : List S) := fun i z => by cases z
      refine v _ ⟨[], a0, a1, a2, h01, h02, h12, hT, none, noLa, rfl⟩ _ _ _ _ _ _ _ _ _ _ _ _ no ⟨_, _, R⟩ e fun σ' u H2 R2 => ?_
      obtain ⟨P2, O2, R2⟩ := R2
      have hu : Rep K (deckW w [] a0 a1 a2 h01 h02 h12 hT) P2 (.bl true) u := R2.temps.1
      rw [rep_blk] at hu
      subst hu
      exact q H2
end
end DL
namespace DL
open PySem PySem.Spec PyProof.Rows L2
def DefOk (K : PySem.W.Frag) (mg : Str → Option Value) (x : Str) (st : Stmt) (ps : List Str) : Prop := ∃ f fd, Fun K x x st f fd ∧ mg x = some (.ref f) ∧ Binds K fd ps []
section
variable {G : Type} {Fam : Wd G → Prop} {P : Program} {w : World} {K : PySem.W.Frag} {mg : Str → Option Value} {base : Heap} {k n : Nat} {x : Str} {stm : Stmt} {N ps : List Str} {b : M G Fl}
theorem fd_none (h : DefOk K mg x stm ps) (k : Nat) (hn : ps.length = n) : FD P w K mg base Fam k x n (fun _ _ => none) := by
  obtain ⟨f, fd, F, hm, hb⟩ := h
  refine ⟨f, fd, ps, ⟨fun vs H Q E z => ?_, fun A o s H a us vs Q E hr hg e0 hb r z => ?_⟩, hm, F.kp, hb⟩
  · obtain ⟨W, P, ds, g, d, g', h1, h2, h3, h4, h5, h6⟩ := z; cases h5
  · obtain ⟨W, P, ds, g, d, g', h1, h2, h3, h4, h5, h6⟩ := z; cases h5
end
/-! ### a comprehension, a loop by an invariant -/
section
variable {G : Type}
theorem compM_rule {p : Pt} {vs : List Nat} {test : M G Bool} {elt : M G S} (J : Nat → List D → Sl → G → Prop) : ∀ (items : List D) (i : Nat) (acc : List D) (st : Sl) (g : G), J i acc st g →
    (∀ k d acc st g, items[k]? = some d → J (i + k) acc st g → ∃ st1, asg p d (wipeS st vs) = some st1 ∧ ∃ b st2 g2, test st1 g = some (b, st2, g2) ∧
      (b = true → ∃ y st3 g3, mTake elt st2 g2 = some (y, st3, g3) ∧ J (i + k + 1) (acc ++ [y]) st3 g3) ∧ (b = false → J (i + k + 1) acc st2 g2)) →
    ∃ acc' st' g', compM p vs test elt items acc st g = some (acc', st', g') ∧ J (i + items.length) acc' st' g'
  | [], i, acc, st, g, h, _ => ⟨acc, st, g, rfl, h⟩
  | d :: ds, i, acc, st, g, h, hs => by
    obtain ⟨st1, e1, b, st2, g2, e2, ht, hf⟩ := hs 0 d acc st g rfl h
    have tail : ∀ acc st g, J (i + 1) acc st g → ∃ acc' st' g', compM p vs test elt ds acc st g = some (acc', st', g') ∧ J (i + 1 + ds.length) acc' st' g' := fun acc st g hj =>
      compM_rule J ds (i + 1) acc st g hj fun k d acc st g e hj => by
        have := hs (k + 1) d acc st g (by simpa using e) (by rw [show i + (k + 1) = i + 1 + k by omega]; exact hj)
        rw [show i + (k + 1) + 1 = i + 1 + k + 1 by omega] at this
        exact this
    have el : i + (d :: ds).length = i + 1 + ds.length := by rw [List.length_cons]; omega
    rw [el]
    unfold compM
    rw [e1, Option.bind_some, e2, bnd_some]
    cases b with
    | true =>
      obtain ⟨y, st3, g3, e3, hj⟩ := ht rfl
      rw [if_pos rfl, e3, bnd_some]
      exact tail _ _ _ hj
    | false =>
      rw [if_neg (by simp)]
      exact tail _ _ _ (hf rfl)
/-- a comprehension whose parts draw nothing and keep the slots -/
theorem compM_pure {p : Pt} {vs : List Nat} {test : M G Bool} {elt : M G S} {f : D → Bool} {h : D → D} {w0 : Sl} {g : G} (items : List D) {st : Sl} (hw : wipeS st vs = w0)
    (hs : ∀ d ∈ items, ∃ st1, asg p d w0 = some st1 ∧ wipeS st1 vs = w0 ∧ test st1 g = some (f d, st1, g) ∧ (f d = true → mTake elt st1 g = some (h d, st1, g))) :
    ∃ st', compM p vs test elt items [] st g = some ((items.filter f).map h, st', g) ∧ wipeS st' vs = w0 := by
  obtain ⟨acc, st', g', e, rfl, hw', ha⟩ := compM_rule (p := p) (vs := vs) (test := test) (elt := elt) (fun i acc st g' => g' = g ∧ wipeS st vs = w0 ∧ acc = ((items.take i).filter f).map h) items 0 [] st g ⟨rfl, hw, by simp⟩ fun k d acc st g' e ⟨hg, hw, ha⟩ => by
    subst hg
    obtain ⟨st1, e1, e2, e3, e4⟩ := hs d (List.mem_of_getElem? e)
    rw [hw]
    refine ⟨st1, e1, f d, st1, g', e3, fun hb => ⟨h d, st1, g', e4 hb, rfl, e2, ?_⟩, fun hb => ⟨rfl, e2, ?_⟩⟩
    · rw [show 0 + k + 1 = k + 1 by omega, List.take_add_one, e, ha, show 0 + k = k by omega]
      simp [hb]
    · rw [show 0 + k + 1 = k + 1 by omega, List.take_add_one, e, ha, show 0 + k = k by omega]
      simp [hb]
  refine ⟨st', ?_, hw'⟩
  rw [e, ha]; simp
theorem forM_rule {p : Pt} {body : M G Fl} (J : Nat → Sl → G → Prop) : ∀ (items : List D) (i : Nat) (st : Sl) (g : G), J i st g →
    (∀ k d st g, items[k]? = some d → J (i + k) st g → ∃ st1, asg p d st = some st1 ∧ ∃ st2 g2, body st1 g = some (.nx, st2, g2) ∧ J (i + k + 1) st2 g2) →
    ∃ st' g', forM p body items st g = some (.nx, st', g') ∧ J (i + items.length) st' g'
  | [], i, st, g, h, _ => ⟨st, g, rfl, h⟩
  | d :: ds, i, st, g, h, hs => by
    obtain ⟨st1, e1, st2, g2, e2, hj⟩ := hs 0 d st g rfl h
    have := forM_rule J ds (i + 1) st2 g2 hj fun k d st g e hj => by
        have := hs (k + 1) d st g (by simpa using e) (by rw [show i + (k + 1) = i + 1 + k by omega]; exact hj)
        rw [show i + (k + 1) + 1 = i + 1 + k + 1 by omega] at this
        exact this
    have el : i + (d :: ds).length = i + 1 + ds.length := by rw [List.length_cons]; omega
    rw [el]
    unfold forM
    rw [e1, Option.bind_some, e2, bnd_some]
    exact this
end
/-! ### the deck is made -/
def dk1 (ns : List Int) : M Unit Fl := (mSet 1 (mLc (mScr 0 ns) (.nm 2) [2] mYes (mUn opAbs (mVar 2))))
def dk2 (ns : List Int) : M Unit S := (mLc (srcSeq (mVar 1)) (.nm 2) [2] (mTest (mOp (opCmp .GtE) (mVar 2) (mOp opPow (mC (.int 10)) (mC (.int 18))))) (mVar 2))
def dk3 (ns : List Int) : M Unit S := (mOp opAdd (mVar 1) (mLst (mCons (mOp opAdd (mUn opLen (mVar 1)) (mC (.int 5))) mNil)))
theorem okCmp_int (a b : Int) : okCmp (.int a) (.int b) = true := by simp [okCmp, D.pl, D.py, PySem.W.alike, PyData.depth]
theorem ltD_int (a b : Int) : PySem.W.dataLt (.int a) (.int b) = decide (a < b) := by
  unfold PySem.W.dataLt
  simp only [PySem.W.keyToks]
  by_cases e : a = b
  · subst e; rw [lex_irrefl]; simp
  · rw [lex_diff (O := itemOrd) (fun q => e (by simpa using q))]; rfl
theorem deck_good (ns : List Int) (hz : ns.length ≤ 63) : ∃ st1 st2 st3, dk1 ns (some (.sh (.obj 0)) :: List.replicate (["_law_script", "_law_cells", "_law_number"].length - 1) none) () = some (.nx, st1, ()) ∧ dk2 ns st1 () = some (.ow (.lst ((deck0 ns).big.map D.int)), st2, ()) ∧ dk3 ns st2 () = some (.ow (.lst ((deck0 ns).cells.map D.int)), st3, ()) := by
  have hz' : ns.length + 1 ≤ sizeLine := by rw [sizeLine_eq]; omega
  have c1 : ∃ st', compM (.nm 2) [2] mYes (mUn opAbs (mVar 2)) (ns.map D.int) [] [some (.sh (.obj 0)), none, none] () = some (((ns.map D.int).filter fun _ => true).map (fun d => match d with | .int n => .int (if n < 0 then -n else n) | d => d), st', ()) ∧ wipeS st' [2] = [some (.sh (.obj 0)), none, none] := by
    refine compM_pure _ rfl fun d hd => ?_
    obtain ⟨n, _, rfl⟩ := List.mem_map.mp hd
    exact ⟨_, rfl, rfl, rfl, fun _ => rfl⟩
  obtain ⟨s1, e1, w1⟩ := c1
  have i1 : (((ns.map D.int).filter fun _ => true).map (fun d => match d with | .int n => .int (if n < 0 then -n else n) | d => d)) = (ns.map fun n => if n < 0 then -n else n).map D.int := by
    rw [List.filter_eq_self.mpr (fun _ _ => rfl), List.map_map, List.map_map]; rfl
  rw [i1] at e1
  let cs := ns.map fun n => if n < 0 then -n else n
  have c2 : ∃ st', compM (.nm 2) [2] (mTest (mOp (opCmp .GtE) (mVar 2) (mOp opPow (mC (.int 10)) (mC (.int 18))))) (mVar 2) (cs.map D.int) [] [some (.sh (.obj 0)), some (.sh (.lst (cs.map D.int))), none] () = some (((cs.map D.int).filter fun d => match d with | .int n => decide ((10 : Int) ^ 18 ≤ n) | _ => false).map id, st', ()) ∧ wipeS st' [2] = [some (.sh (.obj 0)), some (.sh (.lst (cs.map D.int))), none] := by
    refine compM_pure _ rfl fun d hd => ?_
    obtain ⟨n, _, rfl⟩ := List.mem_map.mp hd
    refine ⟨_, rfl, rfl, ?_, fun _ => rfl⟩
    have e : mTest (mOp (opCmp .GtE) (mVar 2) (mOp opPow (mC (.int 10)) (mC (.int 18)))) [some (.sh (.obj 0)), some (.sh (.lst (cs.map D.int))), some (.sh (.int n))] () = some (!decide (n < (10 : Int) ^ 18), [some (.sh (.obj 0)), some (.sh (.lst (cs.map D.int))), some (.sh (.int n))], ()) := by
      have p : okPow 10 18 = true := by decide
      simp only [mTest, mOp, mVar, mC, List.getElem?_cons_succ, List.getElem?_cons_zero, bnd_some, peek, Option.bind_some, opI2, p, if_true, Option.map_some, opCmp, okCmp_int, cmpD, D.py, ltD_int]
      rfl
    refine e.trans ?_
    have : (!decide (n < (10 : Int) ^ 18)) = decide ((10 : Int) ^ 18 ≤ n) := by
      rw [← decide_not]
      exact decide_eq_decide.mpr Int.not_lt
    rw [this]
    rfl
  obtain ⟨s2, e2, w2⟩ := c2
  refine ⟨[some (.sh (.obj 0)), some (.ow (.lst (cs.map D.int))), none], [some (.sh (.obj 0)), some (.sh (.lst (cs.map D.int))), none], [some (.sh (.obj 0)), some (.sh (.lst (cs.map D.int))), none], ?_, ?_, ?_⟩
  · unfold dk1 mSet mLc mScr
    simp only [List.getElem?_cons_zero, bnd_some]
    rw [show (some (S.sh (D.obj 0)) :: List.replicate (["_law_script", "_law_cells", "_law_number"].length - 1) (none : Option S)) = [some (S.sh (D.obj 0)), none, none] from rfl, e1, bnd_some, bnd_some, w1]
    rfl
  · unfold dk2 mLc srcSeq
    have t1 : mTake (mVar 1) [some (.sh (.obj 0)), some (.ow (.lst (cs.map D.int))), none] () = some (.lst (cs.map D.int), [some (.sh (.obj 0)), some (.sh (.lst (cs.map D.int))), none], ()) := rfl
    rw [t1, bnd_some]
    simp only [bnd_some]
    rw [e2, bnd_some, w2, List.map_id, List.filter_map]
    rfl
  · have l1 : (cs.map D.int).length + 1 ≤ sizeLine := by simpa [cs] using hz'
    have l2 : (1 : Nat) ≤ sizeLine := by rw [sizeLine_eq]; decide
    simp only [dk3, mOp, mVar, mC, mUn, mLst, mCons, mNil, mTake, List.getElem?_cons_succ, List.getElem?_cons_zero, bnd_some, peek, take, Option.bind_some, Option.map_some, opAdd, opLen, List.length_cons, List.length_nil, l1, l2, if_true, Nat.zero_add]
    simp [deck0, cs]
end DL
namespace DL
open PySem PySem.Spec PyProof.Rows L2
variable {G : Type}
/-! ### calls by names -/
def perm {α : Type} (d : α) (n : Nat) (pm : List Nat) (l : List α) : List α := if l.length = n then pm.map fun i => l.getD i d else []
def KwB (K : PySem.W.Frag) (fd : FuncData) (ps : List Str) (ks : List Str) (pm : List Nat) : Prop := ∀ (s : Shared) (ws : List Value), K.In s.heap → ws.length = ks.length → BindsTo s fd ⟨[], ks.zip ws⟩ (ps.zip (pm.map fun i => ws.getD i .none))
structure FDK (P : Program) (w : World) (K : PySem.W.Frag) (mg : Str → Option Value) (base : Heap) (Fam : Wd G → Prop) (k : Nat) (x : Str) (n : Nat) (F : Fn G) (kl : List (List Str × List Nat)) : Prop where
  ex : ∃ f fd ps, DZ.FnG P w K mg base CX0 k f fd ps (spF K Fam n F) ∧ mg x = some (.ref f) ∧ PySem.W.keepIn K (.ref f) = true ∧ Binds K fd ps [] ∧ ps.length = n ∧ ∀ q ∈ kl, KwB K fd ps q.1 q.2
theorem FDK.fd {P : Program} {w : World} {K : PySem.W.Frag} {mg : Str → Option Value} {base : Heap} {Fam : Wd G → Prop} {k n : Nat} {x : Str} {F : Fn G} {kl : List (List Str × List Nat)} (h : FDK P w K mg base Fam k x n F kl) : FD P w K mg base Fam k x n F :=
  let ⟨f, fd, ps, a, b, c, d, _, _⟩ := h.ex; ⟨f, fd, ps, a, b, c, d⟩
structure DKs (C : CF) (Fam : Wd G → Prop) (ks : List Keyword) (f : M G (List D)) : Prop where
  ex : ∃ t, (∀ j, PK (C.X j) ks t) ∧ ∀ W, Fam W → EvA' C.K W t f
  len : ∀ st g ds st' g', f st g = some (ds, st', g') → ds.length = ks.length
def permD (pm : List Nat) (ds : List D) : List D := pm.map fun i => ds.getD i .non
def mCallK (pm : List Nat) (F : Fn G) (fa : M G (List D)) : M G S := fun st g => bnd (fa st g) fun ds st g => (F (permD pm ds) g).map fun p => (.sh p.1, st, p.2)
theorem vals_getD : ∀ {zs : List V} {ws : List Value} (i : Nat), Vals zs ws → RelV (zs.getD i .non) (ws.getD i .none)
  | [], _, i, .nil => by simp; rfl
  | z :: zs, _, 0, .cons r t => by simpa using r
  | z :: zs, _, i + 1, .cons r t => by simpa using vals_getD i t
theorem vals_perm {zs : List V} {ws : List Value} (n : Nat) (pm : List Nat) (r : Vals zs ws) : Vals (perm .non n pm zs) (perm .none n pm ws) := by
  unfold perm
  rw [r.length]
  split
  · induction pm with
    | nil => exact .nil
    | cons i pm ih => exact .cons (vals_getD i r) ih
  · exact .nil
theorem reps_perm {K : PySem.W.Frag} {W : Wd G} {P : Hp} {ds : List D} {vs : List V} (r : Reps K W P ds vs) : ∀ pm : List Nat, Reps K W P (permD pm ds) (pm.map fun i => vs.getD i .non)
  | [] => by simp [permD, Reps]
  | i :: pm => by
    have ih := reps_perm r pm
    show Reps K W P (ds.getD i .non :: permD pm ds) (vs.getD i .non :: pm.map fun i => vs.getD i .non)
    simp only [Reps]
    refine ⟨_, _, rfl, ?_, ih⟩
    have : ∀ {ds : List D} {vs : List V} (i : Nat), Reps K W P ds vs → Rep K W P (ds.getD i .non) (vs.getD i .non) := by
      intro ds
      induction ds with
      | nil => intro vs i h; simp only [Reps] at h; subst h; simp
      | cons d ds ih =>
        intro vs i h
        simp only [Reps] at h
        obtain ⟨v, r', rfl, h1, h2⟩ := h
        cases i with
        | zero => simpa using h1
        | succ i => simpa using ih i h2
    exact this i r
section
variable {C : CF} {Fam : Wd G → Prop} {e : Expr} {kws : List Keyword} {pos p kpos : Pos} {nm : Option Str}
theorem k_nil : DKs C Fam [] mNil := ⟨⟨_, fun _ => pk_nil, fun W hW P₀ H₀ σ st τ ts H g ds st' g' Q R h q => by
  simp only [mNil, Option.some.injEq, Prod.mk.injEq] at h; obtain ⟨rfl, rfl, rfl⟩ := h
  obtain ⟨P, O, R⟩ := R
  exact q [] H P O R (by simp [Reps])⟩, fun st g ds st' g' h => by
  simp only [mNil, Option.some.injEq, Prod.mk.injEq] at h; obtain ⟨rfl, rfl, rfl⟩ := h; rfl⟩
theorem k_cons {f : M G S} {r : M G (List D)} (he : DE C Fam e f) (hr : DKs C Fam kws r) : DKs C Fam (⟨nm, e, kpos⟩ :: kws) (mCons f r) := by
  obtain ⟨ta, pa, ea⟩ := he.ex
  obtain ⟨tb, pb, eb⟩ := hr.ex
  refine ⟨⟨_, fun j => pk_cons (pa j) (pb j), fun W hW P₀ H₀ σ st τ ts H g ds st' g' Q R h q => ?_⟩, fun st g ds st' g' h => by
    obtain ⟨d, st1, g1, e1, h⟩ := bnd_eq h
    obtain ⟨ds', st2, g2, e2, h⟩ := bnd_eq h
    simp only [Option.some.injEq, Prod.mk.injEq] at h; obtain ⟨rfl, rfl, rfl⟩ := h
    rw [List.length_cons, List.length_cons, hr.len _ _ _ _ _ e2]⟩
  obtain ⟨d, st1, g1, e1, h⟩ := bnd_eq h
  obtain ⟨ds', st2, g2, e2, h⟩ := bnd_eq h
  simp only [Option.some.injEq, Prod.mk.injEq] at h; obtain ⟨rfl, rfl, rfl⟩ := h
  obtain ⟨x, st0, e3, e4⟩ := mTake_eq e1
  refine ea W hW _ _ _ _ _ _ _ _ _ _ _ _ R e3 fun v H1 R1 => ?_
  obtain ⟨P, O, R1⟩ := R1
  obtain ⟨P', O', R1⟩ := R1.takeV e4
  refine eb W hW _ _ _ _ _ _ _ _ _ _ _ _ ⟨P', O', R1⟩ e2 fun vs H2 P2 O2 R2 rp => ?_
  refine q (v :: vs) H2 P2 O2 R2.pop ?_
  simp only [Reps]
  exact ⟨v, vs, rfl, R2.temps.1, rp⟩
theorem d_callK {x : Str} {k n : Nat} {F : Fn G} {fa : M G (List D)} {kl : List (List Str × List Nat)} (ks : List Str) (pm : List Nat) (h : FDK C.prog C.w C.K C.mg C.base Fam k x n F kl) (ha : DKs C Fam kws fa) (hk : k ≤ C.room) (hq : (ks, pm) ∈ kl := by simp) (hn : pm.length = n := by rfl) (hne : kws ≠ [] := by simp) (hl : kws.length = ks.length := by rfl) (hn0 : n ≠ 0 := by decide)
    (hg : ∀ j, Gl (C.X j) x := by intro _; rfl) (hdb : (x == ("__debug__" : Str)) = false := by decide) (hall : ∀ j, (backToKw pos (keywordEach kws (C.X j).env)).all (·.1.isSome) = true := by intro _; rfl) (hks : ∀ j, (backToKw pos (keywordEach kws (C.X j).env)).filterMap (·.1) = ks := by intro _; rfl)
    (hpl : ∀ j, ((backTo pos (starEach [] (C.X j).env)).any (·.1) || (backToKw pos (keywordEach kws (C.X j).env)).any (·.1.isNone)) = false := by intro _; rfl) : DE C Fam (.Call (.Name x p) [] kws pos) (mCallK pm F fa) := by
  obtain ⟨f, fd, ps, a, b, c, dd, hps, hkw⟩ := h.ex
  obtain ⟨ta, pa, ea⟩ := ha.ex
  have hb := hkw _ hq
  refine ⟨_, fun j => DZ.pe_callGK (g := perm .none ks.length pm) (gV := perm .non ks.length pm) (by rw [C.hP, C.hw, C.hK, C.hmg, C.hbase]; exact a) ((C.hr j).mono hk) (C.hgd j) (hg j) (by rw [C.hmg]; exact b) (by rw [C.hK]; exact c) (fun s ws hin hlen => ?_) (fun r => vals_perm _ pm r) (pass0 (X := C.X j)) (pa j) (hall j) (hks j) hdb (hpl j) hne, fun W hW P₀ H₀ σ st τ ts H g r st' g' Q R h q => ?_⟩
  · rw [C.hK] at hin
    have : ws.length = ks.length := by
      by_cases hw : ws.length = ks.length
      · exact hw
      · unfold perm at hlen
        rw [if_neg hw] at hlen
        simp at hlen
        rw [hps] at hlen
        exact absurd hlen.symm hn0
    unfold perm
    rw [if_pos this]
    exact hb s ws hin this
  · obtain ⟨ds, st1, g1, e1, h⟩ := bnd_eq h
    obtain ⟨⟨d, g2⟩, e2, h⟩ := Option.map_eq_some_iff.mp h
    simp only [Prod.mk.injEq] at h; obtain ⟨rfl, rfl, rfl⟩ := h
    refine ea W hW _ _ _ _ _ _ _ _ _ _ _ _ R e1 fun vs H1 P O R1 rp => ?_
    have hlen : ds.length = ks.length := (ha.len _ _ _ _ _ e1).trans hl
    have e3 : perm V.non ks.length pm vs = pm.map fun i => vs.getD i .non := by
      unfold perm
      rw [if_pos (by rw [rp.length]; exact hlen)]
    rw [e3]
    exact ⟨W, P, permD pm ds, g1, d, g2, hW, by rw [List.length_map]; exact hn, R1.ent, reps_perm rp pm, e2, fun v H' P' o rv => q v H' ⟨P', O, (R1.out o).push rv⟩⟩
end
end DL
namespace DL
open PySem PySem.Spec PyProof.Rows L2
variable {G : Type}
/-! ### a value that is shared from now on -/
def mShr (f : M G S) : M G S := fun st g => bnd (mTake f st g) fun d st g => some (.sh d, st, g)
theorem EvE.shr {K : PySem.W.Frag} {W : Wd G} {t : TE} {f : M G S} (h : EvE K W t f) : EvE K W t (mShr f) := by
  intro P₀ H₀ σ st τ ts H g z st' g' Q R e q
  obtain ⟨d, st1, g1, e1, e⟩ := bnd_eq e
  simp only [Option.some.injEq, Prod.mk.injEq] at e; obtain ⟨rfl, rfl, rfl⟩ := e
  obtain ⟨x, st0, e3, e4⟩ := mTake_eq e1
  refine h _ _ _ _ _ _ _ _ _ _ _ _ R e3 fun v H1 R1 => q v H1 ?_
  obtain ⟨P, O, R1⟩ := R1
  obtain ⟨P', O', R2⟩ := R1.takeV e4
  exact ⟨P', O', R2⟩
section
variable {C : CF} {Fam : Wd G → Prop} {e : Expr} {s : Stmt} {f : M G S}
theorem d_shr (h : DE C Fam e f) : DE C Fam e (mShr f) := let ⟨t, p, q⟩ := h.ex; ⟨t, p, fun W hW => (q W hW).shr⟩
theorem DS.shr {i : Nat} (h : DS C Fam s (mSet i f)) : DS C Fam s (mSet i (mShr f)) := by
  obtain ⟨t, p, q0⟩ := h.ex
  refine ⟨t, p, fun W hW P₀ H₀ σ st τ ts H g fl st' g' E n R h q => ?_⟩
  obtain ⟨x, st1, g1, e1, h⟩ := bnd_eq h
  obtain ⟨d, st2, g2, e2, e3⟩ := bnd_eq e1
  simp only [Option.some.injEq, Prod.mk.injEq] at e3; obtain ⟨rfl, rfl, rfl⟩ := e3
  obtain ⟨y, st0, e4, e5⟩ := mTake_eq e2
  split at h
  · rename_i hi
    simp only [Option.some.injEq, Prod.mk.injEq] at h; obtain ⟨rfl, rfl, rfl⟩ := h
    cases y with
    | sh d' =>
      cases e5
      exact q0 W hW _ _ _ _ _ _ _ _ _ _ _ _ n R (by unfold mSet; rw [e4, bnd_some, if_pos hi]) q
    | «at» j =>
      have hi' : i < st0.length := by
        simp only [take] at e5
        split at e5
        · cases e5; exact hi
        · cases e5; simpa using hi
        · cases e5
      exact q0 W hW _ _ _ _ _ _ _ _ _ _ _ _ n R (by unfold mSet; rw [e4, bnd_some, if_pos hi']; simp only [e5, Option.map_some]) q
    | any => cases e5
    | ow d' =>
      cases e5
      refine q0 W hW _ _ _ _ _ _ _ _ .nx (st2.set i (some (.ow d))) _ _ n R (by unfold mSet; rw [e4, bnd_some, if_pos hi]) ?_
      intro σ' H' R'
      obtain ⟨P, O, R'⟩ := R'
      have hs : (st2.set i (some (.ow d)))[i]? = some (some (.ow d)) := by rw [List.getElem?_set_self hi]
      obtain ⟨v, ev, _, _⟩ := R'.slot hs
      have R1 := R'.pushS (v := v) (s := .at i) ev
      obtain ⟨P', O', R2⟩ := R1.takeV (d := d) (st' := st2.set i (some (.sh d))) (by simp only [take, hs, List.set_set])
      exact q _ _ ⟨P', O', R2.pop⟩
  · cases h
end
end DL
/-! DX5: sets whose things are tuples of any depth. -/
namespace DX
open PySem PySem.Spec PyProof.Rows L2
mutual
/-- whether the hash hangs on the value alone -/
def byv : NestedKey → Bool
  | .none => true
  | .num _ => true
  | .text _ => false
  | .tup ks => byvs ks
def byvs : List NestedKey → Bool
  | [] => true
  | k :: ks => byv k && byvs ks
end
section
variable {P : Program} {w : World} {E : Value → Shared → Prop}
mutual
theorem hby : ∀ (k : NestedKey) (v : Value) (n : Nat) (A : Around) (s : Shared) (Q : Bool → Shared → Prop), NestedIs s.heap k v → k.depth ≤ n → Q (byv k) s → wpAny (model P w) A (hashByValue n v) Q E s
  | .none, _, n, A, s, Q, x, _, q => by cases x; cases n <;> exact wpAny_pure q
  | .num _, _, n, A, s, Q, x, _, q => by cases x <;> (cases n <;> exact wpAny_pure q)
  | .text _, _, n, A, s, Q, x, _, q => by cases x; cases n <;> exact wpAny_pure q
  | .tup ks, _, n, A, s, Q, x, hn, q => by
    cases x with
    | @tup a o vs m _ h1 h2 h3 h4 =>
      simp only [NestedKey.depth] at hn
      cases n with
      | zero => omega
      | succ n =>
        unfold hashByValue
        refine wpAny_bind (wpAny_specialOf (s := s) ⟨o, h1, h2⟩ F.slot_tuple_hash.lookup ?_)
        show wpAny _ _ (seqItems? (.ref a) >>= _) _ _ s
        refine wpAny_bind (wpAny_seqItems h1 h3 (wpAny_bind ?_))
        show wpAny _ _ (forIn vs _ _) _ _ s
        rw [← Array.forIn_toList]
        refine hbys ks vs.toList n A s _ h4 (by omega) (fun e => ?_) (fun e => ?_)
        · exact wpAny_pure (by simpa only [byv, e] using q)
        · exact wpAny_pure (by simpa only [byv, e] using q)
theorem hbys : ∀ (ks : List NestedKey) (vs : List Value) (n : Nat) (A : Around) (s : Shared) (Q : Option Bool × PUnit → Shared → Prop), NestedAll s.heap ks vs → NestedKey.depthAll ks ≤ n → (byvs ks = true → Q (none, ⟨⟩) s) → (byvs ks = false → Q (some false, ⟨⟩) s) →
    wpAny (model P w) A (forIn vs (none, PUnit.unit) fun x _ => do
      if (!(← hashByValue n x)) = true then pure (ForInStep.done (some false, PUnit.unit)) else do pure PUnit.unit; pure (ForInStep.yield (none, PUnit.unit))) Q E s
  | [], _, n, A, s, Q, x, _, q, _ => by cases x; exact wpAny_pure (q rfl)
  | k :: ks, _, n, A, s, Q, x, hn, q, q2 => by
    cases x with
    | cons x1 x2 =>
      simp only [NestedKey.depthAll] at hn
      rw [List.forIn_cons]
      refine wpAny_bind (wpAny_bind (hby k _ n A s _ x1 (by omega) ?_))
      cases e : byv k with
      | true =>
        simp only [Bool.not_true, Bool.false_eq_true, if_false]
        refine wpAny_bind (wpAny_pure (wpAny_pure ?_))
        exact hbys ks _ n A s Q x2 (by omega) (fun e2 => q (by simp only [byvs, e, e2, Bool.and_self])) (fun e2 => q2 (by simp only [byvs, e2, Bool.and_false]))
      | false =>
        simp only [Bool.not_false, if_true]
        exact wpAny_pure (wpAny_pure (q2 (by simp only [byvs, e, Bool.false_and])))
end
mutual
theorem noCls : ∀ (k : NestedKey) (v : Value) (n : Nat) (A : Around) (s : Shared) (Q : Bool → Shared → Prop), NestedIs s.heap k v → k.depth ≤ n → Q false s → wpAny (model P w) A (ofAClassStatement n v) Q E s
  | .none, _, n, A, s, Q, x, _, q => by cases x; cases n <;> exact wpAny_pure q
  | .num _, _, n, A, s, Q, x, _, q => by cases x <;> (cases n <;> exact wpAny_pure q)
  | .text _, _, n, A, s, Q, x, _, q => by cases x; cases n <;> exact wpAny_pure q
  | .tup ks, _, n, A, s, Q, x, hn, q => by
    cases x with
    | @tup a o vs m _ h1 h2 h3 h4 =>
      simp only [NestedKey.depth] at hn
      cases n with
      | zero => omega
      | succ n =>
        unfold ofAClassStatement
        refine wpAny_bind (wpAny_typeOf (s := s) (T := "tuple") ⟨o, h1, h2⟩ ?_)
        have yes : (("tuple" : String) == "tuple") = true := by decide
        simp only [yes, if_true]
        refine wpAny_bind (wpAny_pure ?_)
        simp only [Bool.not_true, Bool.false_eq_true, if_false]
        show wpAny _ _ (seqItems? (.ref a) >>= _) _ _ s
        refine wpAny_bind (wpAny_seqItems h1 h3 ?_)
        dsimp only
        refine wpAny_bind ?_
        show wpAny _ _ (forIn vs _ _) _ _ s
        rw [← Array.forIn_toList]
        exact noClss ks vs.toList n A s _ h4 (by omega) (wpAny_pure q)
theorem noClss : ∀ (ks : List NestedKey) (vs : List Value) (n : Nat) (A : Around) (s : Shared) (Q : Option Bool × PUnit → Shared → Prop), NestedAll s.heap ks vs → NestedKey.depthAll ks ≤ n → Q (none, ⟨⟩) s →
    wpAny (model P w) A (forIn vs (none, PUnit.unit) fun x _ => do
      if (← ofAClassStatement n x) = true then pure (ForInStep.done (some true, PUnit.unit)) else do pure PUnit.unit; pure (ForInStep.yield (none, PUnit.unit))) Q E s
  | [], _, n, A, s, Q, x, _, q => by cases x; exact wpAny_pure q
  | k :: ks, _, n, A, s, Q, x, hn, q => by
    cases x with
    | cons x1 x2 =>
      simp only [NestedKey.depthAll] at hn
      rw [List.forIn_cons]
      refine wpAny_bind (wpAny_bind (noCls k _ n A s _ x1 (by omega) ?_))
      simp only [Bool.false_eq_true, if_false]
      refine wpAny_bind (wpAny_pure (wpAny_pure ?_))
      exact noClss ks _ n A s Q x2 (by omega) q
end
/-- a thing of the set -/
def NK (h : Heap) (v : Value) (k : NestedKey) : Prop := (∃ a, v = .ref a) ∧ NestedIs h k v ∧ k.depth ≤ 8
/-- the search for a tuple among tuples tells nothing -/
theorem unseen {A : Around} {s : Shared} {v : Value} {k : NestedKey} {Q : Bool → Shared → Prop} (hv : NK s.heap v k) : ∀ {ys : List Value}, (∀ y ∈ ys, ∃ k', NK s.heap y k') → Q false s → wpAny (model P w) A (searchCouldBeSeen v ys) Q E s := by
  intro ys hy q
  obtain ⟨⟨b, rfl⟩, nk, nd⟩ := hv
  unfold searchCouldBeSeen
  refine wpAny_bind (wpAny_forIn_list _ (fun rest r s' => r.1 = none ∧ s' = s ∧ ∀ y ∈ rest, ∃ k', NK s.heap y k') _ ?turn ?fin _ _ ⟨rfl, rfl, hy⟩)
  case turn =>
    rintro y rest r s' ⟨_, rfl, all⟩
    obtain ⟨k', ⟨c, rfl⟩, ck, cd⟩ := all y List.mem_cons_self
    have more : ∀ z ∈ rest, ∃ k', NK s'.heap z k' := fun z hz => all z (List.mem_cons_of_mem _ hz)
    dsimp only
    by_cases hc : (b == c || (carriedByValue (.ref b) && carriedByValue (.ref c))) = true
    · exact wp_if_pos hc (wpAny_pure ⟨rfl, rfl, more⟩)
    · refine wp_if_neg hc (wpAny_bind (quiet_key k _ 8 s' nk nd _ _ _ ?_))
      refine wp_if_neg (by decide) (wpAny_bind (quiet_key k' _ 8 s' ck cd _ _ _ ?_))
      refine wp_if_neg (by decide) (wpAny_bind (noCls k _ 8 _ s' _ nk nd ?_))
      refine wp_if_neg (by decide) (wpAny_bind (noCls k' _ 8 _ s' _ ck cd ?_))
      exact wp_if_neg (by decide) (wpAny_pure ⟨rfl, rfl, more⟩)
  case fin =>
    rintro ⟨r1, r2⟩ s' ⟨e, rfl, _⟩
    cases e
    exact wpAny_pure q
end
end DX
namespace DX
open PySem PySem.Spec PyProof.Rows L2
/-- the things of a set as it keeps them -/
def kept (w : World) (L : List (Value × NestedKey)) : List (Int × Value) := L.map fun p => (p.2.hash w, p.1)
def hsOf (w : World) (L : List (Value × NestedKey)) : List Int := L.map fun p => p.2.hash w
structure NS (w : World) (h : Heap) (S : Addr) (L : List (Value × NestedKey)) (es : Array (Int × Value)) (ep : Nat) (t : SetTable) : Prop where
  ob : ∃ o, h.get? S = some o ∧ o.ExactSet ∧ o.data = .set es ep t
  eq : es.toList = kept w L
  tab : TabOk t (hsOf w L)
  nd : (L.map (·.2)).Nodup
  el : ∀ p ∈ L, NK h p.1 p.2
  led : w.params.followText "set-order" = true ∨ t.led = true
  room : L.length * 5 < t.mask * 3
  few : L.length < 64
section
variable {P : Program} {w : World} {A : Around} {E : Value → Shared → Prop} {s : Shared} {S : Addr} {L : List (Value × NestedKey)} {es : Array (Int × Value)} {ep : Nat} {t : SetTable} {x : Value} {k : NestedKey}
theorem kept_len (w : World) (L : List (Value × NestedKey)) : (kept w L).length = L.length := List.length_map ..
theorem hs_len (w : World) (L : List (Value × NestedKey)) : (hsOf w L).length = L.length := List.length_map ..
theorem size_of (e : es.toList = kept w L) : es.size = L.length := by rw [← Array.length_toList, e, kept_len]
theorem entry_of (e : es.toList = kept w L) {i : Nat} {p : Value × NestedKey} (h : L[i]? = some p) : es[i]? = some (p.2.hash w, p.1) := by
  rw [← Array.getElem?_toList, e, kept, List.getElem?_map, h]; rfl
theorem fits_of {h : Heap} (e : es.toList = kept w L) (T : TabOk t (hsOf w L)) (hm : L.length ≤ t.mask) : t.fits es.size = true := by
  have a := T.sz
  rw [hs_len] at a
  have b := size_of e
  simp only [SetTable.fits, SetTable.fill, T.dm, Bool.and_eq_true, beq_iff_eq, decide_eq_true_eq]
  constructor
  · omega
  · show t.place.size + 0 ≤ t.mask; omega
theorem NS.fits (R : NS w s.heap S L es ep t) : t.fits es.size = true := fits_of (h := s.heap) R.eq R.tab (by have := R.room; omega)
theorem NS.odd (R : NS w s.heap S L es ep t) : ¬ t.gaveWay = true := by
  simp only [SetTable.gaveWay, mask_odd R.tab.mok]
  decide
abbrev stepAt (t : SetTable) (h : Int) (c : Nat) : SetTable.Probe := nth t.mask (runAt t.mask (SetTable.bits h % (t.mask + 1)) (SetTable.bits h)) c
theorem no_dummy (m : Nat) : ∀ (n : Nat) (p : SetTable.Probe), p.dummy = none → (nth m p n).dummy = none
  | 0, _, h => h
  | n + 1, p, h => no_dummy m n (adv m p) (by unfold adv; split <;> exact h)
/-- what the probe meets from the c-th step on -/
theorem met (R : NS w s.heap S L es ep t) {h : Int} {K c : Nat} (big : K < 10 * SetTable.turns t.mask) (out : way t.mask h K ∉ t.place.toList) (inn : ∀ j, j < K → way t.mask h j ∈ t.place.toList) (hc : c ≤ K) :
    (∃ (d i : Nat) (p : Value × NestedKey), c ≤ d ∧ d < K ∧ t.place.toList[i]? = some (way t.mask h d) ∧ L[i]? = some p ∧ (∀ (c' i' : Nat) (p' : Value × NestedKey), c ≤ c' → c' < d → t.place.toList[i']? = some (way t.mask h c') → L[i']? = some p' → p'.2.hash w ≠ h) ∧
      t.probe (fun i => (es[i]?.map (·.1)).getD 0) h (stepAt t h c) = some (.candidate (way t.mask h d) i (stepAt t h (d + 1)))) ∨
    ((∀ (c' i' : Nat) (p' : Value × NestedKey), c ≤ c' → c' < K → t.place.toList[i']? = some (way t.mask h c') → L[i']? = some p' → p'.2.hash w ≠ h) ∧ t.probe (fun i => (es[i]?.map (·.1)).getD 0) h (stepAt t h c) = some (.empty (way t.mask h K) none)) := by
  have go : ∀ q, nth t.mask (stepAt t h c) q = stepAt t h (c + q) := fun q => (nth_add t.mask c _ q).symm
  have hash : ∀ (i' : Nat) (p' : Value × NestedKey), L[i']? = some p' → (es[i']?.map (·.1)).getD 0 = p'.2.hash w := fun i' p' e => by rw [entry_of R.eq e]; rfl
  have spec := go_spec t R.tab.ris R.tab.dm (fun i => (es[i]?.map (·.1)).getD 0) h (10 * SetTable.turns t.mask) (K - c) (stepAt t h c) (no_dummy _ _ _ rfl) (by omega)
    (fun q hq => by rw [go]; exact inn _ (by omega)) (by rw [go, Nat.add_sub_cancel' hc]; exact out)
  rcases spec with ⟨q, i, hq, hi, hh, hno, hp⟩ | ⟨hno, hp⟩
  · rw [go] at hi hp
    rw [go] at hp
    have hil : i < L.length := by
      have a := (List.getElem?_eq_some_iff.mp hi).1
      have b := R.tab.sz
      rw [hs_len] at b
      rw [Array.length_toList] at a
      omega
    exact .inl ⟨c + q, i, L[i], by omega, by omega, hi, List.getElem?_eq_getElem hil, fun c' i' p' h1 h2 h3 h4 e => hno (c' - c) i' (by omega) (by rw [go, Nat.add_sub_cancel' h1]; exact h3) (by rw [hash i' p' h4]; exact e), hp⟩
  · rw [go, Nat.add_sub_cancel' hc] at hp
    exact .inr ⟨fun c' i' p' h1 h2 h3 h4 e => hno (c' - c) i' (by omega) (by rw [go, Nat.add_sub_cancel' h1]; exact h3) (by rw [hash i' p' h4]; exact e), hp⟩
/-- the search, from the c-th step on -/
theorem seek (R : NS w s.heap S L es ep t) (hx : NK s.heap x k) (hu : A.units + 20 < cLine) {K : Nat} (big : K < 10 * SetTable.turns t.mask) (out : way t.mask (k.hash w) K ∉ t.place.toList)
    (inn : ∀ j, j < K → way t.mask (k.hash w) j ∈ t.place.toList) {Q : SetFound → Shared → Prop} (yes : k ∈ L.map (·.2) → Q (.there none) s) (no : k ∉ L.map (·.2) → Q (.free (way t.mask (k.hash w) K) false) s) :
    ∀ (f c : Nat) (st : Option SetTable.Probe), st.getD (t.probeStart (k.hash w)) = stepAt t (k.hash w) c → c ≤ K → K < f + c →
      (∀ (i : Nat) p, L[i]? = some p → p.2 = k → ∃ c', c ≤ c' ∧ c' < K ∧ t.place.toList[i]? = some (way t.mask (k.hash w) c')) → wpAny (model P w) A (setSearchFrom S x (k.hash w) true f st) Q E s := by
  intro f
  induction f with
  | zero => intro c st _ h1 h2; omega
  | succ f ih =>
    intro c st est hc hf all
    obtain ⟨o, ob1, ob2, ob3⟩ := R.ob
    rw [setSearchFrom_succ]
    refine wpAny_bind (wpAny_setState_of ob1 ob3 R.fits (wp_if_neg R.odd ?_))
    try refine wpAny_bind (wpAny_pure ?_)
    rw [est]
    rcases met R big out inn hc with ⟨d, i, p, hd, hdK, hi, hp, before, e⟩ | ⟨before, e⟩
    · rw [e]
      dsimp only
      have pk := R.el p (List.mem_of_getElem? hp)
      have then_ : wpAny (model P w) A (searchRest S x (k.hash w) true f es t (way t.mask (k.hash w) d) i (stepAt t (k.hash w) (d + 1))) Q E s := by
        unfold searchRest
        rw [entry_of R.eq hp]
        dsimp only
        obtain ⟨⟨pa, hpa⟩, pn, pd⟩ := pk
        obtain ⟨⟨xa, hxa⟩, xn, xd⟩ := hx
        refine wpAny_bind (wpAny_holding (eqAt_key p.2 k A s _ _ pn xn (by omega) _ _ _ _ ?_))
        rw [← NestedKey.decide_eq]
        refine wpAny_bind (wpAny_setState_of ob1 ob3 R.fits ?_)
        dsimp only
        by_cases same : p.2 = k
        · exact wp_if_pos (by simp [same]) (wpAny_pure (yes (List.mem_map.mpr ⟨p, List.mem_of_getElem? hp, same⟩)))
        · refine wp_if_neg (by simp [same]) ?_
          try refine wpAny_bind (wpAny_pure ?_)
          rw [sameMem]
          dsimp only
          have live : t.slot (way t.mask (k.hash w) d) = .live i := slot_live R.tab.ris hi
          simp only [if_true, live, entry_of R.eq hp]
          rw [hpa]
          refine wpAny_bind (wpAny_isSame_ref_self (wpAny_bind (wpAny_pure ?_)))
          simp only [if_true]
          refine wp_if_neg (by simp [same]) ?_
          refine ih (d + 1) _ rfl (by omega) (by omega) fun i0 p0 e0 ek => ?_
          obtain ⟨c', a1, a2, a3⟩ := all i0 p0 e0 ek
          refine ⟨c', ?_, a2, a3⟩
          rcases Nat.lt_trichotomy c' d with z | z | z
          · exact absurd (by rw [ek]) (before c' i0 p0 a1 z a3 e0)
          · subst z
            have l0 := slot_live R.tab.ris a3
            rw [live] at l0
            injection l0 with l0
            subst l0
            rw [hp] at e0
            cases e0
            exact absurd ek same
          · omega
      by_cases hl : t.led = true
      · refine wp_if_neg (by simp [hl]) ?_
        try refine wpAny_bind (wpAny_pure ?_)
        exact then_
      · refine wp_if_pos (by simp [hl]) (wpAny_bind (unseen hx (fun y hy => ?_) (wp_if_neg (by decide) ?_)))
        · obtain ⟨z, hz, rfl⟩ := List.mem_map.mp hy
          have hz1 : z ∈ es.toList := by
            have : z ∈ es ∧ z.1 = k.hash w := by simpa using hz
            simpa using this.1
          rw [R.eq] at hz1
          obtain ⟨p2, hp2, rfl⟩ := List.mem_map.mp hz1
          exact ⟨p2.2, R.el p2 hp2⟩
        · try refine wpAny_bind (wpAny_pure ?_)
          exact then_
    · rw [e]
      dsimp only
      refine wpAny_pure (no fun hm => ?_)
      obtain ⟨p0, m0, ek⟩ := List.mem_map.mp hm
      obtain ⟨i0, e0⟩ := List.getElem?_of_mem m0
      obtain ⟨c', a1, a2, a3⟩ := all i0 p0 e0 ek
      exact before c' i0 p0 a1 a2 a3 e0 (by rw [ek])
theorem seek0 (R : NS w s.heap S L es ep t) (hx : NK s.heap x k) (hu : A.units + 20 < cLine) {Q : SetFound → Shared → Prop} (yes : k ∈ L.map (·.2) → Q (.there none) s)
    (no : ∀ K, k ∉ L.map (·.2) → way t.mask (k.hash w) K ∉ t.place.toList → (∀ j, j < K → way t.mask (k.hash w) j ∈ t.place.toList) → Q (.free (way t.mask (k.hash w) K) false) s) :
    wpAny (model P w) A (setSearch S x (k.hash w) true) Q E s := by
  obtain ⟨K, big, out, inn⟩ := R.tab.first (by rw [hs_len]; have := R.room; omega) (k.hash w)
  have lim : K < 100000 := by
    rcases R.tab.mok with e | e | e <;> (rw [e] at big; unfold SetTable.turns at big; omega)
  unfold setSearch
  refine seek R hx hu big out inn yes (fun hn => no K hn out inn) 100000 0 none rfl (Nat.zero_le _) (by omega) fun i p hp ek => ?_
  have hil : i < t.place.toList.length := by
    have a := (List.getElem?_eq_some_iff.mp hp).1
    have b := R.tab.sz
    rw [hs_len] at b
    rw [Array.length_toList]; omega
  have hj := List.getElem?_eq_getElem hil
  have hh : (hsOf w L)[i]? = some (k.hash w) := by rw [hsOf, List.getElem?_map, hp, ← ek]; rfl
  obtain ⟨c, hc, e⟩ := R.tab.before out hh hj
  exact ⟨c, Nat.zero_le _, hc, by rw [hj, e]⟩
end
end DX
namespace DX
open PySem PySem.Spec PyProof.Rows L2
theorem pick_all {α : Type} (L : List α) : (List.range L.length).filterMap (fun i => L[i]?) = L := by
  have : ∀ n, n ≤ L.length → (List.range n).filterMap (fun i => L[i]?) = L.take n := by
    intro n
    induction n with
    | zero => intro _; rfl
    | succ n ih =>
      intro h
      rw [List.range_succ, List.filterMap_append, ih (by omega), List.take_add_one]
      have e : L[n]? = some L[n] := List.getElem?_eq_getElem (by omega)
      simp [e]
  rw [this _ (Nat.le_refl _), List.take_length]
section
variable {P : Program} {w : World} {A : Around} {E : Value → Shared → Prop} {s : Shared} {S : Addr} {L : List (Value × NestedKey)} {es : Array (Int × Value)} {ep : Nat} {t : SetTable} {x : Value} {k : NestedKey}
theorem pick_kept (e : es.toList = kept w L) (l : List Nat) : l.filterMap (fun i => es[i]?) = kept w (l.filterMap fun i => L[i]?) := by
  have h : ∀ i, es[i]? = (L[i]?).map fun (p : Value × NestedKey) => (p.2.hash w, p.1) := fun i => by rw [← Array.getElem?_toList, e, kept, List.getElem?_map]
  unfold kept
  rw [List.map_filterMap]
  exact congrArg (fun f => l.filterMap f) (funext h)
theorem pick_hs (e : es.toList = kept w L) : ∀ l : List Nat, (∀ i ∈ l, i < L.length) → hsOf w (l.filterMap fun i => L[i]?) = l.map fun i => (es.map (·.1)).getD i 0
  | [], _ => rfl
  | i :: l, h => by
    have hlt : i < L.length := h i List.mem_cons_self
    have hi : L[i]? = some L[i] := List.getElem?_eq_getElem hlt
    have he : (es.map (·.1))[i]? = some ((L[i]).2.hash w) := by rw [Array.getElem?_map, entry_of e hi]; rfl
    rw [List.filterMap_cons_some hi, List.map_cons, ← pick_hs e l fun j hj => h j (List.mem_cons_of_mem _ hj), Array.getD_eq_getD_getElem?, he]
    rfl
theorem nk_same {h h' : Heap} {v : Value} {o : Obj} (x : NK h v k) (ho : h.get? S = some o) (hd : o.data = .set es ep t) (sb : Heap.SameBut S h h') : NK h' v k :=
  ⟨x.1, NestedIs.at (fun a u vs n e1 e2 => (sb.2 a fun z => by rw [z, ho] at e1; cases e1; rw [hd] at e2; cases e2).trans e1) k v x.2.1, x.2.2⟩
/-- the table, larger -/
theorem relay_ns {o : Obj} (ob : s.heap.get? S = some o) (ex : o.ExactSet) (od : o.data = .set es ep t) (eq : es.toList = kept w L) (T : TabOk t (hsOf w L)) (fl : L.length ≤ t.mask) (nd : (L.map (·.2)).Nodup) (el : ∀ p ∈ L, NK s.heap p.1 p.2)
    (ld : w.params.followText "set-order" = true ∨ t.led = true) (few : L.length < 64) {want m : Nat} (e1 : SetTable.sizeAbove want = m + 1) (mok : MaskOk m) (room : L.length * 5 < m * 3) {Q : Unit → Shared → Prop}
    (q : ∀ h' L' es' ep' t', Heap.SameBut S s.heap h' → NS w h' S L' es' ep' t' → L'.Perm L → Q () { s with heap := h' }) : wpAny (model P w) A (setRelay S want) Q E s := by
  have sz := size_of eq
  obtain ⟨t2, order, r, pm, T2, em, el2, _, _⟩ := relaid_ok t (hs := es.map (·.1)) (wanted := want) (M := m) (by omega) mok (by rw [Array.size_map]; omega)
  rw [Array.size_map, sz] at pm
  have inn : ∀ i ∈ order.toList, i < L.length := fun i hi => List.mem_range.mp (pm.mem_iff.mp hi)
  obtain ⟨L2, hL2⟩ : ∃ L2, L2 = order.toList.filterMap fun i => L[i]? := ⟨_, rfl⟩
  have k2 : (order.filterMap (es[·]?)).toList = kept w L2 := by rw [hL2, ← pick_kept eq]; first | exact Array.toList_filterMap .. | simp
  have p2 : L2.Perm L := by
    have := pm.filterMap fun i => L[i]?
    rw [pick_all] at this
    rw [hL2]; exact this
  have h2 : hsOf w L2 = order.toList.map fun i => (es.map (·.1)).getD i 0 := by rw [hL2]; exact pick_hs eq _ inn
  rw [← h2] at T2
  have s2 : (order.filterMap (es[·]?)).size = es.size := by rw [size_of k2, p2.length_eq, sz]
  have few2 : m ≤ 127 := by rcases mok with e | e | e <;> omega
  rw [setRelay_eq]
  refine wpAny_bind (wpAny_setState_of ob od (fits_of (h := s.heap) eq T fl) ?_)
  refine wp_if_neg (by rw [sizeLine_eq]; omega) ?_
  try refine wpAny_bind (wpAny_pure ?_)
  rw [r]
  refine wpAny_bind (wp_if_neg (by rw [s2]; simp) ?_)
  try refine wpAny_bind (wpAny_pure ?_)
  refine wpAny_pure (wpAny_storeSet_of ob od ?_ (by rw [s2, sz, sizeLine_eq]; omega))
  have sb : Heap.SameBut S s.heap (s.heap.update S (Obj.putSet (order.filterMap (es[·]?)) t2)) := Heap.SameBut.update ..
  exact q _ L2 _ _ t2 sb ⟨⟨_, store_at ob od, ⟨ex.1, ex.2.1, ex.2.2⟩, rfl⟩, k2, T2, (p2.map (·.2)).nodup_iff.mpr nd, fun p hp => nk_same (el p (p2.mem_iff.mp hp)) ob od sb, by rw [el2]; exact ld, by rw [p2.length_eq, em]; exact room, by rw [p2.length_eq]; exact few⟩ p2
/-- a thing is put in -/
theorem add_ns (R : NS w s.heap S L es ep t) (hx : NK s.heap x k) (hu : A.units + 20 < cLine) (few : L.length + 1 < 64) {Q : Bool → Shared → Prop}
    (q : ∀ b h' L' es' ep' t', Heap.SameBut S s.heap h' → NS w h' S L' es' ep' t' → (k ∈ L.map (·.2) → L' = L) → (k ∉ L.map (·.2) → L'.Perm ((x, k) :: L)) → Q b { s with heap := h' }) :
    wpAny (model P w) A (setAddHashed S x (k.hash w)) Q E s := by
  obtain ⟨o, ob, ex, od⟩ := R.ob
  have sz := size_of R.eq
  have room := R.room
  unfold setAddHashed
  rw [show (100000 : Nat) = 99999 + 1 from rfl, setAddHashedIn_succ]
  have nosc : ¬ byScan x es = true := by
    obtain ⟨⟨a, rfl⟩, _⟩ := hx
    simp [byScan, Value.scannable]
  refine wpAny_holding (wpAny_bind (wpAny_setState_of ob od R.fits (wp_if_neg nosc ?_)))
  try refine wpAny_bind (wpAny_pure ?_)
  refine wpAny_bind (seek0 R hx hu (fun hm => ?_) fun K hm out inn => ?_)
  · exact wpAny_pure (q false s.heap L es ep t (Heap.SameBut.refl S s.heap) R (fun _ => rfl) fun z => absurd hm z)
  · refine wpAny_bind (wpAny_setState_of ob od R.fits ?_)
    dsimp only
    obtain ⟨a1, a2, a3, a4, a5, _, _, _, a9⟩ := R.tab.put out inn
    generalize t.put (way t.mask (k.hash w) K) = tp at a1 a3 a4 a5 a9 ⊢
    obtain ⟨t1, n⟩ := tp
    dsimp only at a1 a3 a4 a5 a9 ⊢
    subst a1
    generalize SetTable.below t.place (way t.mask (k.hash w) K) = n at a2 a3 ⊢
    rw [hs_len] at a2 a9
    obtain ⟨L1, hL1⟩ : ∃ L1, L1 = L.take n ++ (x, k) :: L.drop n := ⟨_, rfl⟩
    have pm : L1.Perm ((x, k) :: L) := by rw [hL1]; exact put_perm L n (x, k)
    have len1 : L1.length = L.length + 1 := pm.length_eq
    have k1 : (SetTable.insertAt es n (k.hash w, x)).toList = kept w L1 := by
      rw [SetTable.toList_insertAt, R.eq, hL1]
      simp only [kept, List.map_append, List.map_cons, List.map_take, List.map_drop]
    have h1 : hsOf w L1 = (hsOf w L).take n ++ k.hash w :: (hsOf w L).drop n := by rw [hL1]; simp only [hsOf, List.map_append, List.map_cons, List.map_take, List.map_drop]
    rw [← h1] at a3
    have nd1 : (L1.map (·.2)).Nodup := (pm.map (·.2)).nodup_iff.mpr (List.nodup_cons.mpr ⟨hm, R.nd⟩)
    generalize SetTable.insertAt es n (k.hash w, x) = es1 at k1 ⊢
    have sz1 := size_of k1
    -- the table with its mark
    have fin : ∀ t2 : SetTable, TabOk t2 (hsOf w L1) → t2.mask = t.mask → t2.led = t.led → (t2.tooFull = true ↔ (L.length + 1) * 5 ≥ t.mask * 3) →
        wpAny (model P w) A (do
          storeSet S es1 t2
          if (!false && t2.tooFull) = true then setRelay S (SetTable.grown (es.size + 1))
          pure true) Q E s := fun t2 T2 em eled full => by
      have sb : Heap.SameBut S s.heap (s.heap.update S (Obj.putSet es1 t2)) := Heap.SameBut.update ..
      have ob1 := store_at (es' := es1) (t' := t2) ob od
      refine wpAny_bind (wpAny_storeSet_of ob od ?_ (by rw [sz1, sizeLine_eq]; omega))
      generalize s.heap.update S (Obj.putSet es1 t2) = hp at sb ob1 ⊢
      have el1 : ∀ p ∈ L1, NK hp p.1 p.2 := fun p hp' => by
        rcases List.mem_cons.mp (pm.mem_iff.mp hp') with e | m
        · rw [e]; exact nk_same hx ob od sb
        · exact nk_same (R.el p m) ob od sb
      have ld1 : w.params.followText "set-order" = true ∨ t2.led = true := by rw [eled]; exact R.led
      by_cases hf : t2.tooFull = true
      · have hfull := full.mp hf
        have two : (t.mask = 7 ∧ L.length = 4) ∨ (t.mask = 31 ∧ L.length = 18) := by
          rcases R.tab.mok with e | e | e <;> (rw [e] at hfull room; omega)
        have lay : ∀ m, SetTable.sizeAbove (SetTable.grown (L.length + 1)) = m + 1 → MaskOk m → (L.length + 1) * 5 < m * 3 → wpAny (model P w) A (setRelay S (SetTable.grown (L.length + 1))) (fun _ s' => wpAny (model P w) A (pure true) Q E s') E { s with heap := hp } := fun m e mok r =>
          relay_ns (s := { s with heap := hp }) ob1 ⟨ex.1, ex.2.1, ex.2.2⟩ rfl k1 T2 (by rw [len1, em]; omega) nd1 el1 ld1 (by omega) e mok (by rw [len1]; exact r)
            fun h2 L2 es2 ep2 t3 sb2 R2 pm2 => wpAny_pure (q true h2 L2 es2 ep2 t3 (sb.trans sb2) R2 (fun z => absurd z hm) fun _ => pm2.trans pm)
        rw [sz]
        refine wp_if_pos (by simp [hf]) (wpAny_bind ?_)
        rcases two with ⟨_, e⟩ | ⟨_, e⟩
        · exact lay 31 (by rw [e, size_20]) (.inr (.inl rfl)) (by omega)
        · exact lay 127 (by rw [e, size_76]) (.inr (.inr rfl)) (by omega)
      · refine wp_if_neg (by simp [hf]) ?_
        try refine wpAny_bind (wpAny_pure ?_)
        refine wpAny_pure (q true hp L1 es1 _ t2 sb ⟨⟨_, ob1, ⟨ex.1, ex.2.1, ex.2.2⟩, rfl⟩, k1, T2, nd1, el1, ld1, ?_, by omega⟩ (fun z => absurd z hm) fun _ => pm)
        have : ¬ (L.length + 1) * 5 ≥ t.mask * 3 := fun z => hf (full.mpr z)
        rw [len1, em]; omega
    have full1 : t1.tooFull = true ↔ (L.length + 1) * 5 ≥ t.mask * 3 := by
      unfold SetTable.tooFull
      rw [decide_eq_true_eq, a9, a4]
    have T1 : TabOk { t1 with plain := false } (hsOf w L1) := ⟨a3.ris, a3.dm, a3.sz, a3.mok, a3.bd, a3.reach⟩
    have hb : ∀ (Q' : Bool → Shared → Prop), Q' (byv k) s → wpAny (model P w) A (hashByValue 8 x) Q' E s := fun Q' z => hby k x 8 A s Q' hx.2.1 hx.2.2 z
    by_cases pl : t1.plain = true
    · rw [if_pos pl]
      refine wpAny_bind (hb _ ?_)
      cases byv k with
      | true => exact fin t1 a3 a4 a5 full1
      | false => exact fin { t1 with plain := false } T1 a4 a5 full1
    · rw [if_neg pl]
      exact wpAny_bind (wpAny_pure (fin t1 a3 a4 a5 full1))
/-- the theory of sets of tuples -/
def thN (P : Program) (w : World) (S : Addr) (h0 : Heap) : Th P w NestedKey S h0 where
  I := fun h L => ∃ es ep t, NS w h S L es ep t ∧ ∀ p ∈ L, NK h0 p.1 p.2
  Ky := fun v k => NK h0 v k
  keep := fun h h' L ⟨es, ep, t, R, k0⟩ ks k => ⟨es, ep, t, ⟨let ⟨o, a, b⟩ := R.ob; ⟨o, ks o a, b⟩, R.eq, R.tab, R.nd, fun p hp => ⟨(k0 p hp).1, NestedIs.at (fun a o _ _ e _ => k a o e) _ _ (k0 p hp).2.1, (k0 p hp).2.2⟩, R.led, R.room, R.few⟩, k0⟩
  add := fun A E s v k L Q hu hI hv hz hk hQ => by
    obtain ⟨es, ep, t, R, k0⟩ := hI
    have hx : NK s.heap v k := ⟨hv.1, NestedIs.at (fun a o _ _ e _ => hk a o e) _ _ hv.2.1, hv.2.2⟩
    unfold setAdd
    refine wpAny_holding (wpAny_bind (pyHash_key k v A s _ hx.2.1 (by have := hx.2.2; omega) ?_))
    refine add_ns (s := { s with toks := s.toks + k.draws }) R hx hu hz fun b h' L' es' ep' t' sb R' c1 c2 => hQ b h' (s.toks + k.draws) L' (Nat.le_add_right _ _) sb ⟨es', ep', t', R', fun p hp => ?_⟩ c1 c2
    by_cases c : k ∈ L.map (·.2)
    · rw [c1 c] at hp; exact k0 p hp
    · rcases List.mem_cons.mp ((c2 c).mem_iff.mp hp) with e | m
      · rw [e]; exact hv
      · exact k0 p m
end
end DX
namespace DX
open PySem PySem.Spec PyProof.Rows L2
mutual
theorem nested_of {h : Heap} : ∀ (k : NestedKey) (v : Value) (as : List Addr), Reads h v k.data as → NestedIs h k v
  | .none, _, _, r => by cases r; exact .none
  | .num i, _, _, r => by cases r; exact .int _ _
  | .text x, _, _, r => by cases r; exact .text _ _
  | .tup ks, _, _, r => by
    cases r with
    | tuple a b c d => exact .tup a b c (nesteds_of ks _ _ d)
theorem nesteds_of {h : Heap} : ∀ (ks : List NestedKey) (vs : List Value) (as : List Addr), ReadsAll h vs (NestedKey.datas ks) as → NestedAll h ks vs
  | [], _, _, r => by cases r; exact .nil
  | k :: ks, _, _, r => by
    cases r with
    | cons a b => exact .cons (nested_of k _ _ a) (nesteds_of ks _ _ b)
end
mutual
theorem depth_data : ∀ k : NestedKey, k.data.depth = k.depth
  | .none => rfl
  | .num _ => rfl
  | .text _ => rfl
  | .tup ks => by simp only [NestedKey.data, PyData.depth, NestedKey.depth]; rw [depths_data ks]
theorem depths_data : ∀ ks : List NestedKey, PyData.depthAll (NestedKey.datas ks) = NestedKey.depthAll ks
  | [] => rfl
  | k :: ks => by simp only [NestedKey.datas, PyData.depthAll, NestedKey.depthAll]; rw [depth_data k, depths_data ks]
end
def isTupK : NestedKey → Bool
  | .tup _ => true
  | _ => false
section
variable {X : Cx}
theorem fresh_thN {P : Program} {w : World} (S : Addr) (h0 : Heap) : Fresh (thN P w S h0) := fun h ho => by
  have s0 := sat_new ho
  obtain ⟨ob, few, fits, ris, led⟩ := s0
  refine ⟨#[], 0, _, ⟨ob, rfl, ⟨ris, rfl, rfl, .inl rfl, fun x hx => ?_, fun i h j e => ?_⟩, List.Pairwise.nil, fun p hp => (nomatch hp), led, ?_, by simp⟩, fun p hp => (nomatch hp)⟩
  · exact absurd hx (by simp [SetTable.fresh])
  · simp [hsOf] at e
  · show 0 * 5 < _; simp [SetTable.fresh]
/-- set(xs), xs a list or a tuple of tuples -/
def rSetN (w : World) (K : PySem.W.Frag) : List V → Hp → VK → Prop := fun vs H Q => ∃ (a : Addr) (zs : List (V × NestedKey)), vs = [.ref a] ∧ (SqL K H a (zs.map (·.1)) ∨ SqT K H a (zs.map (·.1))) ∧ zs.length < 64 ∧ (∀ z ∈ zs, Dp K H z.1 z.2.data ∧ isTupK z.2 = true ∧ z.2.depth ≤ 8) ∧
  ∀ (p : Addr) (js : List (V × NestedKey)), H p = none → (js.map (·.2)).Nodup → (∀ j ∈ js, j ∈ zs) → (∀ z ∈ zs, z.2 ∈ js.map (·.2)) → Q (.ref p) (upd H p (SetO w p (js.map (·.1))))
theorem ref_of {K : PySem.W.Frag} {h : Heap} {k : NestedKey} {v : Value} (hk : isTupK k = true) (x : NestedIs h k v) : ∃ a, v = .ref a := by
  cases x with
  | tup a b c d => exact ⟨_, rfl⟩
  | _ => cases hk
theorem cr_setN (hc : X.calm = true) (hu : X.A.units + 60 < cLine) : CallR X (.type "set") (rSetN X.w X.K) := by
  intro pins s σ H vs us Q I rv h
  obtain ⟨a, zs, rfl, hsq, hfew, hel, q⟩ := h
  obtain rfl := Vals.ref1 rv
  have hh : X.A.handled = none := I.ok.hd hc
  -- the things with their values
  have pair : ∀ us : List Value, Vals (zs.map (·.1)) us → ∃ ws : List ((V × NestedKey) × Value), zs = ws.map (·.1) ∧ us = ws.map (·.2) ∧ ∀ z ∈ ws, RelV z.1.1 z.2 := by
    clear hsq hfew hel q
    induction zs with
    | nil => intro us r; cases us with
      | nil => exact ⟨[], rfl, rfl, fun z hz => by cases hz⟩
      | cons u us => cases r
    | cons z zs ih =>
      intro us r
      cases r with
      | cons r1 r2 =>
        obtain ⟨ws, e1, e2, e3⟩ := ih _ r2
        exact ⟨(z, _) :: ws, by rw [List.map_cons, ← e1], by rw [List.map_cons, ← e2], fun y hy => by
          rcases List.mem_cons.mp hy with rfl | hy
          · exact r1
          · exact e3 y hy⟩
  have nk : ∀ (z : V × NestedKey) (u : Value), z ∈ zs → RelV z.1 u → NK s.heap u z.2 := fun z u hz r => by
    obtain ⟨d1, d2, d3⟩ := hel z hz
    obtain ⟨as, rd⟩ := Dp.reads I z.2.data z.1 u d1 r
    have n := nested_of z.2 u as rd
    exact ⟨ref_of (K := X.K) d2 n, n, d3⟩
  have main : ∀ (ws : List ((V × NestedKey) × Value)), zs = ws.map (·.1) → (∀ z ∈ ws, RelV z.1.1 z.2) → ∀ (h' : Heap) (tk : Nat) (L : List (Value × NestedKey)), (∃ es ep t, NS X.w h' s.heap.objs.size L es ep t ∧ ∀ p ∈ L, NK s.heap p.1 p.2) → Has (ws.map fun z => (z.2, z.1.2)) (ws.map fun z => (z.2, z.1.2)).length L → (∀ b o, s.heap.get? b = some o → h'.get? b = some o) →
      EP X pins σ Q (.ref s.heap.objs.size) { s with heap := h', toks := tk } := by
    intro ws ez hw h' tk L ⟨es, ep, t, R, _⟩ g kp
    -- each thing of L comes of one of ws
    have src : ∀ l : List (Value × NestedKey), (∀ p ∈ l, p ∈ L) → ∃ js : List (V × NestedKey), js.map (·.2) = l.map (·.2) ∧ Vals (js.map (·.1)) (l.map (·.1)) ∧ ∀ j ∈ js, j ∈ zs := by
      intro l
      induction l with
      | nil => intro _; exact ⟨[], rfl, .nil, fun j hj => by cases hj⟩
      | cons p l ih =>
        intro hl
        obtain ⟨js, e1, e2, e3⟩ := ih fun p hp => hl p (List.mem_cons_of_mem _ hp)
        have hp := g.sub p (hl p List.mem_cons_self)
        rw [List.take_length] at hp
        obtain ⟨z, hz, rfl⟩ := List.mem_map.mp hp
        exact ⟨z.1 :: js, by rw [List.map_cons, List.map_cons, e1], .cons (hw z hz) e2, fun j hj => by
          rcases List.mem_cons.mp hj with rfl | hj
          · rw [ez]; exact List.mem_map_of_mem hz
          · exact e3 j hj⟩
    obtain ⟨js, e1, e2, e3⟩ := src L fun _ h => h
    have hv : Vals (js.map (·.1)) (es.toList.map (·.2)) := by
      have : es.toList.map (·.2) = L.map (·.1) := by rw [R.eq, kept, List.map_map]; rfl
      rw [this]; exact e2
    have sat : Sat X.w h' s.heap.objs.size es ep t := ⟨R.ob, by have := size_of R.eq; have := R.few; unfold scanBound; omega, fits_of (h := h') R.eq R.tab (by have := R.room; omega), R.tab.ris, R.led⟩
    refine ⟨.ref s.heap.objs.size, _, I.laid kp (Nat.le_refl _) (setO_ok sat hv), rfl, q _ js (I.hok.fresh (Nat.le_refl _)) (by rw [e1]; exact g.nd) e3 fun z hz => ?_⟩
    rw [e1]
    rw [ez] at hz
    obtain ⟨y, hy, rfl⟩ := List.mem_map.mp hz
    exact g.all (y.2, y.1.2) (by rw [List.take_length]; exact List.mem_map.mpr ⟨y, hy, rfl⟩)
  have base : ∀ (ws : List ((V × NestedKey) × Value)), zs = ws.map (·.1) → (∀ z ∈ ws, RelV z.1.1 z.2) → (∀ p ∈ ws.map (fun z => (z.2, z.1.2)), NK s.heap p.1 p.2) ∧ (ws.map fun z => (z.2, z.1.2)).length < 64 ∧ (ws.map fun z => (z.2, z.1.2)).map (·.1) = ws.map (·.2) := fun ws ez hw => by
    refine ⟨fun p hp => ?_, ?_, ?_⟩
    · obtain ⟨z, hz, rfl⟩ := List.mem_map.mp hp
      exact nk z.1 z.2 (by rw [ez]; exact List.mem_map_of_mem hz) (hw z hz)
    · rw [ez, List.length_map] at hfew; rw [List.length_map]; exact hfew
    · rw [List.map_map]; rfl
  rcases hsq with hsq | hsq
  · obtain ⟨its, r, pl, hz⟩ := I.list hsq
    obtain ⟨ws, e1, e2, hw⟩ := pair _ r
    obtain ⟨b1, b2, b3⟩ := base ws e1 hw
    refine set_call (fun h' tk => ∃ L, (∃ es ep t, NS X.w h' s.heap.objs.size L es ep t ∧ ∀ p ∈ L, NK s.heap p.1 p.2) ∧ Has (ws.map fun z => (z.2, z.1.2)) (ws.map fun z => (z.2, z.1.2)).length L ∧ ∀ b o, s.heap.get? b = some o → h'.get? b = some o) (fun A' s1 E' Q' ha hun e hQ => ?_) fun h' tk ⟨L, x, g, kp⟩ => main ws e1 hw h' tk L x g kp
    subst e
    have pl' : (s.heap.push (new0 X.w)).IsList a its.toArray := pl.isList.push _
    obtain ⟨ol, hol, _⟩ := id pl.isList
    refine upd_list (s := { s with heap := s.heap.push (new0 X.w) }) (ws.map fun z => (z.2, z.1.2)) (thN X.prog X.w s.heap.objs.size s.heap) (ha.trans hh) pl' (by rw [b3, ← e2]) b1 b2 (by omega) (fresh_thN _ _ _ (Heap.get?_push_size _ rfl)) (Nat.ne_of_gt (Heap.lt_size hol)) (by show _ < (s.heap.push _).objs.size; rw [Heap.size_push]; exact Nat.lt_succ_self _) (none_ge (Nat.le_refl _)) (by show _ ≤ (s.heap.push _).objs.size; rw [Heap.size_push]; exact Nat.le_succ _) (fun b o e => Heap.get?_push_of_some _ e)
      fun h' tk L x g kp => hQ h' tk ⟨L, x, g, kp⟩
  · obtain ⟨its, r, ⟨o, ho, hcl, n, hdt⟩, hz⟩ := I.tuple hsq
    obtain ⟨ws, e1, e2, hw⟩ := pair _ r
    obtain ⟨b1, b2, b3⟩ := base ws e1 hw
    refine set_call (fun h' tk => ∃ L, (∃ es ep t, NS X.w h' s.heap.objs.size L es ep t ∧ ∀ p ∈ L, NK s.heap p.1 p.2) ∧ Has (ws.map fun z => (z.2, z.1.2)) (ws.map fun z => (z.2, z.1.2)).length L ∧ ∀ b o, s.heap.get? b = some o → h'.get? b = some o) (fun A' s1 E' Q' ha hun e hQ => ?_) fun h' tk ⟨L, x, g, kp⟩ => main ws e1 hw h' tk L x g kp
    subst e
    refine upd_tuple (s := { s with heap := s.heap.push (new0 X.w) }) (ws.map fun z => (z.2, z.1.2)) (thN X.prog X.w s.heap.objs.size s.heap) (ha.trans hh) ⟨o, Heap.get?_push_of_some _ ho, hcl, n, hdt⟩ (by rw [b3, ← e2]) b1 b2 (by omega) (fresh_thN _ _ _ (Heap.get?_push_size _ rfl)) (Nat.ne_of_gt (Heap.lt_size ho)) (by show _ < (s.heap.push _).objs.size; rw [Heap.size_push]; exact Nat.lt_succ_self _) (none_ge (Nat.le_refl _)) (by show _ ≤ (s.heap.push _).objs.size; rw [Heap.size_push]; exact Nat.le_succ _) (fun b o e => Heap.get?_push_of_some _ e)
      fun h' tk L x g kp => hQ h' tk ⟨L, x, g, kp⟩
end
end DX
namespace DL
open PySem PySem.Spec PyProof.Rows L2
variable {G : Type}
/-! ### data as keys of any depth -/
theorem nksD_cons {d : D} {ds : List D} {r : List NestedKey} (h : nksD (d :: ds) = some r) : ∃ k ks, nkD d = some k ∧ nksD ds = some ks ∧ r = k :: ks := by
  simp only [nksD] at h
  split at h
  · rename_i k ks e1 e2; cases h; exact ⟨k, ks, e1, e2, rfl⟩
  · cases h
mutual
theorem nk_py : ∀ (d : D) (k : NestedKey), nkD d = some k → d.py = k.data
  | .int i, k, h => by simp only [nkD] at h; cases h; rfl
  | .str x, k, h => by simp only [nkD] at h; cases h; rfl
  | .tup ds, k, h => by
    simp only [nkD] at h
    obtain ⟨ks, e, rfl⟩ := Option.map_eq_some_iff.mp h
    simp only [D.py, NestedKey.data]
    rw [nks_py ds ks e]
  | .non, k, h => by simp [nkD] at h
  | .bl _, k, h => by simp [nkD] at h
  | .lst _, k, h => by simp [nkD] at h
  | .dct _, k, h => by simp [nkD] at h
  | .dcn _, k, h => by simp [nkD] at h
  | .obj _, k, h => by simp [nkD] at h
theorem nks_py : ∀ (ds : List D) (ks : List NestedKey), nksD ds = some ks → D.pys ds = NestedKey.datas ks
  | [], ks, h => by simp only [nksD] at h; cases h; rfl
  | d :: ds, r, h => by
    obtain ⟨k, ks, e1, e2, rfl⟩ := nksD_cons h
    simp only [D.pys, NestedKey.datas]
    rw [nk_py d k e1, nks_py ds ks e2]
end
mutual
theorem nk_pl : ∀ (d : D) (k : NestedKey), nkD d = some k → d.pl = true
  | .int i, k, h => rfl
  | .str x, k, h => rfl
  | .tup ds, k, h => by
    simp only [nkD] at h
    obtain ⟨ks, e, rfl⟩ := Option.map_eq_some_iff.mp h
    simp only [D.pl]
    exact nks_pl ds ks e
  | .non, k, h => by simp [nkD] at h
  | .bl _, k, h => by simp [nkD] at h
  | .lst _, k, h => by simp [nkD] at h
  | .dct _, k, h => by simp [nkD] at h
  | .dcn _, k, h => by simp [nkD] at h
  | .obj _, k, h => by simp [nkD] at h
theorem nks_pl : ∀ (ds : List D) (ks : List NestedKey), nksD ds = some ks → D.pls ds = true
  | [], ks, h => rfl
  | d :: ds, r, h => by
    obtain ⟨k, ks, e1, e2, rfl⟩ := nksD_cons h
    simp only [D.pls, nk_pl d k e1, nks_pl ds ks e2, Bool.and_self]
end
mutual
theorem nk_inj : ∀ (a b : D) (k : NestedKey), nkD a = some k → nkD b = some k → a = b
  | .int i, b, k, h, h2 => by
    simp only [nkD] at h; cases h
    cases b <;> simp [nkD] at h2
    rw [h2]
  | .str x, b, k, h, h2 => by
    simp only [nkD] at h; cases h
    cases b <;> simp [nkD] at h2
    rw [h2]
  | .tup ds, b, k, h, h2 => by
    simp only [nkD] at h
    obtain ⟨ks, e, rfl⟩ := Option.map_eq_some_iff.mp h
    cases b with
    | tup es =>
      simp only [nkD] at h2
      obtain ⟨ks', e', h3⟩ := Option.map_eq_some_iff.mp h2
      cases h3
      rw [nks_inj ds es ks e e']
    | _ => simp [nkD] at h2
  | .non, b, k, h, h2 => by simp [nkD] at h
  | .bl _, b, k, h, h2 => by simp [nkD] at h
  | .lst _, b, k, h, h2 => by simp [nkD] at h
  | .dct _, b, k, h, h2 => by simp [nkD] at h
  | .dcn _, b, k, h, h2 => by simp [nkD] at h
  | .obj _, b, k, h, h2 => by simp [nkD] at h
theorem nks_inj : ∀ (a b : List D) (ks : List NestedKey), nksD a = some ks → nksD b = some ks → a = b
  | [], [], ks, _, _ => rfl
  | [], d :: ds, ks, h, h2 => by
    simp only [nksD] at h; cases h
    obtain ⟨k, ks, _, _, e⟩ := nksD_cons h2
    cases e
  | d :: ds, [], ks, h, h2 => by
    simp only [nksD] at h2; cases h2
    obtain ⟨k, ks, _, _, e⟩ := nksD_cons h
    cases e
  | d :: ds, e :: es, r, h, h2 => by
    obtain ⟨k, ks, a1, a2, rfl⟩ := nksD_cons h
    obtain ⟨k', ks', b1, b2, e'⟩ := nksD_cons h2
    cases e'
    rw [nk_inj d e k a1 b1, nks_inj ds es ks a2 b2]
end
mutual
theorem toks_key : ∀ (x y : NestedKey) (l m : List (Int ⊕ List Nat)), PySem.W.alike x.data y.data = true → PySem.W.keyToks x.data ++ l = PySem.W.keyToks y.data ++ m → x = y ∧ l = m
  | .none, y, l, m, h, e => by
    cases y with
    | none => exact ⟨rfl, e⟩
    | _ => simp [NestedKey.data, PySem.W.alike] at h
  | .num i, y, l, m, h, e => by
    cases y with
    | num j => simp only [NestedKey.data, PySem.W.keyToks, List.cons_append, List.nil_append, List.cons.injEq, Sum.inl.injEq] at e; exact ⟨by rw [e.1], e.2⟩
    | _ => simp [NestedKey.data, PySem.W.alike] at h
  | .text i, y, l, m, h, e => by
    cases y with
    | text j => simp only [NestedKey.data, PySem.W.keyToks, List.cons_append, List.nil_append, List.cons.injEq, Sum.inr.injEq] at e; exact ⟨by rw [PySem.W.str_of_cps e.1], e.2⟩
    | _ => simp [NestedKey.data, PySem.W.alike] at h
  | .tup xs, y, l, m, h, e => by
    cases y with
    | tup ys =>
      simp only [NestedKey.data, PySem.W.keyToks] at e
      simp only [NestedKey.data, PySem.W.alike] at h
      obtain ⟨h1, h2⟩ := toks_keys xs ys l m h e
      exact ⟨by rw [h1], h2⟩
    | _ => simp [NestedKey.data, PySem.W.alike] at h
theorem toks_keys : ∀ (xs ys : List NestedKey) (l m : List (Int ⊕ List Nat)), PySem.W.alikeAll (NestedKey.datas xs) (NestedKey.datas ys) = true → PySem.W.keyToksAll (NestedKey.datas xs) ++ l = PySem.W.keyToksAll (NestedKey.datas ys) ++ m → xs = ys ∧ l = m
  | [], [], l, m, _, e => by
    simp only [NestedKey.datas, PySem.W.keyToksAll, List.cons_append, List.nil_append, List.cons.injEq, true_and] at e
    exact ⟨rfl, e⟩
  | [], y :: ys, l, m, _, e => by
    simp only [NestedKey.datas, PySem.W.keyToksAll, List.cons_append, List.nil_append, List.cons.injEq] at e
    exact absurd e.1 (by simp)
  | x :: xs, [], l, m, _, e => by
    simp only [NestedKey.datas, PySem.W.keyToksAll, List.cons_append, List.nil_append, List.cons.injEq] at e
    exact absurd e.1 (by simp)
  | x :: xs, y :: ys, l, m, h, e => by
    simp only [NestedKey.datas, PySem.W.keyToksAll, List.cons_append, List.append_assoc, List.cons.injEq, true_and] at e
    simp only [NestedKey.datas, PySem.W.alikeAll, Bool.and_eq_true] at h
    obtain ⟨h1, h2⟩ := toks_key x y _ _ h.1 e
    obtain ⟨h3, h4⟩ := toks_keys xs ys l m h.2 h2
    exact ⟨by rw [h1, h3], h4⟩
end
/-- what a set of tuples may have -/
def okSN (ds : List D) : Bool := (ds.all fun d => match nkD d with | some (.tup ks) => decide ((NestedKey.tup ks).depth ≤ 8) | _ => false) && (ds.all fun a => ds.all fun b => PySem.W.alike a.py b.py) && decide (ds.length < 64)
structure SN (ds : List D) (ks : List NestedKey) : Prop where
  eq : ds.map nkD = ks.map some
  tup : ∀ k ∈ ks, DX.isTupK k = true ∧ k.depth ≤ 8
  al : ∀ k ∈ ks, ∀ k' ∈ ks, PySem.W.alike k.data k'.data = true
  few : ks.length < 64
theorem okSN_keys {ds : List D} (h : okSN ds = true) : ∃ ks, SN ds ks := by
  simp only [okSN, Bool.and_eq_true, decide_eq_true_eq] at h
  obtain ⟨⟨h1, h2⟩, h3⟩ := h
  have key : ∀ d ∈ ds, ∃ k, nkD d = some k ∧ DX.isTupK k = true ∧ k.depth ≤ 8 := fun d hd => by
    have := List.all_eq_true.mp h1 d hd
    split at this
    · rename_i ks e; exact ⟨_, e, rfl, by simpa using this⟩
    · cases this
  have : ∀ l : List D, (∀ d ∈ l, d ∈ ds) → ∃ ks : List NestedKey, l.map nkD = ks.map some ∧ (∀ k ∈ ks, DX.isTupK k = true ∧ k.depth ≤ 8) := by
    intro l
    induction l with
    | nil => intro _; exact ⟨[], rfl, fun k hk => by cases hk⟩
    | cons d l ih =>
      intro hl
      obtain ⟨ks, e, hk⟩ := ih fun d hd => hl d (List.mem_cons_of_mem _ hd)
      obtain ⟨k, ek, h4⟩ := key d (hl d List.mem_cons_self)
      exact ⟨k :: ks, by rw [List.map_cons, List.map_cons, e, ek], fun k' hk' => by
        rcases List.mem_cons.mp hk' with rfl | hk'
        · exact h4
        · exact hk k' hk'⟩
  obtain ⟨ks, e, hk⟩ := this ds fun _ h => h
  have back : ∀ k ∈ ks, ∃ d ∈ ds, nkD d = some k := fun k hk => by
    have : some k ∈ ds.map nkD := by rw [e]; exact List.mem_map_of_mem hk
    obtain ⟨d, hd, e⟩ := List.mem_map.mp this
    exact ⟨d, hd, e⟩
  refine ⟨ks, e, hk, fun k hk k' hk' => ?_, ?_⟩
  · obtain ⟨d, hd, e1⟩ := back k hk
    obtain ⟨d', hd', e2⟩ := back k' hk'
    rw [← nk_py d k e1, ← nk_py d' k' e2]
    exact List.all_eq_true.mp (List.all_eq_true.mp h2 d hd) d' hd'
  · have := congrArg List.length e
    rw [List.length_map, List.length_map] at this
    omega
theorem SN.back {ds : List D} {ks : List NestedKey} (h : SN ds ks) {d : D} (hd : d ∈ ds) : ∃ k ∈ ks, nkD d = some k := by
  have : nkD d ∈ ks.map some := by rw [← h.eq]; exact List.mem_map_of_mem hd
  obtain ⟨k, hk, e⟩ := List.mem_map.mp this
  exact ⟨k, hk, e.symm⟩
theorem SN.inj {ds : List D} {ks : List NestedKey} (h : SN ds ks) : InjT ds := fun a ha b hb h1 h2 => by
  obtain ⟨k, hk, ek⟩ := h.back ha
  obtain ⟨k', hk', ek'⟩ := h.back hb
  have e := ltD_toks h1 h2
  rw [nk_py a k ek, nk_py b k' ek'] at e
  obtain ⟨e2, _⟩ := toks_key k k' [] [] (h.al k hk k' hk') (by rw [List.append_nil, List.append_nil]; exact e)
  subst e2
  exact nk_inj a b k ek ek'
/-- what is laid: values with their data and their keys -/
theorem SN.zip {K : PySem.W.Frag} {W : Wd G} {P H : Hp} (s : Sub P H) : ∀ {ds : List D} {xs : List V}, Reps K W P ds xs → (∀ d ∈ ds, ∃ k, nkD d = some k ∧ DX.isTupK k = true ∧ k.depth ≤ 8) → ∃ zs : List (V × NestedKey × D), xs = zs.map (·.1) ∧ ds = zs.map (·.2.2) ∧ ∀ z ∈ zs, nkD z.2.2 = some z.2.1 ∧ Rep K W P z.2.2 z.1 ∧ Dp K H z.1 z.2.1.data ∧ DX.isTupK z.2.1 = true ∧ z.2.1.depth ≤ 8
  | [], xs, h, _ => by simp only [Reps] at h; subst h; exact ⟨[], rfl, rfl, fun z hz => by cases hz⟩
  | d :: ds, xs, h, hk => by
    simp only [Reps] at h
    obtain ⟨v, r, rfl, h1, h2⟩ := h
    obtain ⟨zs, e1, e2, e3⟩ := SN.zip s h2 fun d hd => hk d (List.mem_cons_of_mem _ hd)
    obtain ⟨k, ek, t1, t2⟩ := hk d List.mem_cons_self
    exact ⟨(v, k, d) :: zs, by rw [List.map_cons, ← e1], by rw [List.map_cons, ← e2], fun z hz => by
      rcases List.mem_cons.mp hz with rfl | hz
      · exact ⟨ek, h1, by rw [← nk_py d k ek]; exact Rep.dp s d v (nk_pl d k ek) h1, t1, t2⟩
      · exact e3 z hz⟩
theorem nodup_mapD {js : List (V × NestedKey × D)} (hk : ∀ z ∈ js, nkD z.2.2 = some z.2.1) (h : (js.map fun z => z.2.1).Nodup) : (js.map fun z => z.2.2).Nodup := by
  unfold List.Nodup at h ⊢
  rw [List.pairwise_map] at h ⊢
  refine List.Pairwise.imp_of_mem (fun {a b} ha hb hne e => hne ?_) h
  have h1 := hk a ha
  have h2 := hk b hb
  rw [e, h2] at h1
  exact (Option.some.inj h1).symm
theorem reps_of {K : PySem.W.Frag} {W : Wd G} {P : Hp} : ∀ {js : List (V × NestedKey × D)}, (∀ z ∈ js, Rep K W P z.2.2 z.1) → Reps K W P (js.map fun z => z.2.2) (js.map (·.1))
  | [], _ => by simp [Reps]
  | z :: js, h => by
    rw [List.map_cons, List.map_cons]
    simp only [Reps]
    exact ⟨_, _, rfl, h z List.mem_cons_self, reps_of fun z hz => h z (List.mem_cons_of_mem _ hz)⟩
def rSSN (w : World) (K : PySem.W.Frag) : V → Hp → VK → Prop := fun v H Q => DX.rSetN w K [v] H fun y H2 => DX.rSortO w K [y] H2 Q
/-- sorted(set(x)), len(set(x)), x of ints, texts or tuples -/
def opSS2 : D → Option S
  | .lst ds => if okSS ds = true ∨ okSN ds = true then some (.ow (.lst (ssD ds))) else none
  | .tup ds => if okSS ds = true ∨ okSN ds = true then some (.ow (.lst (ssD ds))) else none
  | _ => none
/-- the chosen things of a set, by their keys -/
theorem pick_js {zs : List (V × NestedKey × D)} : ∀ {js : List (V × NestedKey)}, (∀ j ∈ js, j ∈ zs.map fun z => (z.1, z.2.1)) → ∃ ys : List (V × NestedKey × D), js = ys.map (fun z => (z.1, z.2.1)) ∧ ∀ y ∈ ys, y ∈ zs
  | [], _ => ⟨[], rfl, fun y hy => by cases hy⟩
  | j :: js, h => by
    obtain ⟨ys, e, hy⟩ := pick_js (zs := zs) (js := js) fun j hj => h j (List.mem_cons_of_mem _ hj)
    obtain ⟨z, hz, rfl⟩ := List.mem_map.mp (h j List.mem_cons_self)
    exact ⟨z :: ys, by rw [List.map_cons, ← e], fun y hy' => by
      rcases List.mem_cons.mp hy' with rfl | h
      · exact hz
      · exact hy y h⟩
theorem ss_pick {ds : List D} {ks : List NestedKey} (hs : SN ds ks) {zs ys : List (V × NestedKey × D)} (ed : ds = zs.map (·.2.2)) (hk : ∀ z ∈ zs, nkD z.2.2 = some z.2.1) (hy : ∀ y ∈ ys, y ∈ zs) (hn : (ys.map fun z => z.2.1).Nodup) (hall : ∀ z ∈ zs, z.2.1 ∈ ys.map fun z => z.2.1)
    {srt : List (V × NestedKey × D)} (hp : srt.Perm ys) (hsrt : srt.Pairwise fun a b => ltD b.2.2 a.2.2 = false) : srt.map (fun z => z.2.2) = ssD ds := by
  refine ssD_of hs.inj ?_ ?_ fun y => ?_
  · rw [List.pairwise_map]; exact hsrt
  · exact nodup_mapD (fun z hz => hk z (hy z (hp.mem_iff.mp hz))) ((hp.map _).nodup_iff.mpr hn)
  · rw [ed]
    constructor
    · intro h
      obtain ⟨z, hz, rfl⟩ := List.mem_map.mp h
      exact List.mem_map_of_mem (f := fun z : V × NestedKey × D => z.2.2) (hy z (hp.mem_iff.mp hz))
    · intro h
      obtain ⟨z, hz, rfl⟩ := List.mem_map.mp h
      obtain ⟨y, hy', e⟩ := List.mem_map.mp (hall z hz)
      have e1 := hk z hz
      have e2 := hk y (hy y hy')
      rw [e] at e2
      rw [nk_inj _ _ _ e1 e2]
      exact List.mem_map_of_mem (f := fun z : V × NestedKey × D => z.2.2) (hp.mem_iff.mpr hy')
theorem SN.keyed {ds : List D} {ks : List NestedKey} (h : SN ds ks) : ∀ d ∈ ds, ∃ k, nkD d = some k ∧ DX.isTupK k = true ∧ k.depth ≤ 8 := fun d hd => by
  obtain ⟨k, hk, e⟩ := h.back hd
  exact ⟨k, e, h.tup k hk⟩
theorem b_ssN {w : World} {K : PySem.W.Frag} {W : Wd G} {P₀ H₀ P : Hp} {O : Addr → Option Tag} {σ : L2.St} {st : Sl} {τ : List V} {ts : List S} {H : Hp} {g : G} {Q : VK} (R : RelB K W P₀ H₀ P O σ st τ ts H g) {ds : List D} {a : Addr} {xs : List V}
    (hk : okSN ds = true) (hs : SqL K H a xs ∨ SqT K H a xs) (rs : Reps K W P ds xs) (hzl : ds.length ≤ sizeLine) (q : ∀ v H', Rel K W P₀ H₀ σ st (v :: τ) (.ow (.lst (ssD ds)) :: ts) H' g → Q v H') : rSSN w K (.ref a) H Q := by
  obtain ⟨ks, sn⟩ := okSN_keys hk
  obtain ⟨zs, e1, e2, e3⟩ := SN.zip R.sub rs sn.keyed
  have hlen : zs.length < 64 := by have := congrArg List.length e2; rw [List.length_map] at this; have h4 := congrArg List.length sn.eq; simp at h4; have := sn.few; omega
  refine ⟨a, zs.map fun z => (z.1, z.2.1), rfl, by rw [List.map_map]; rw [e1] at hs; exact hs, by rw [List.length_map]; exact hlen, fun z hz => ?_, fun p js hp hn hin hall => ?_⟩
  · obtain ⟨y, hy, rfl⟩ := List.mem_map.mp hz
    exact (e3 y hy).2.2
  · obtain ⟨ys, rfl, hy⟩ := pick_js hin
    have R2 := R.waste (o := DX.SetO w p ((ys.map fun z => (z.1, z.2.1)).map (·.1))) hp
    have alk : ∀ d ∈ (ys.map fun z => (z.1, z.2.1.data)).map (·.2), ∃ k ∈ ks, d = k.data ∧ DX.isTupK k = true ∧ k.depth ≤ 8 := fun d hd => by
      rw [List.map_map] at hd
      obtain ⟨y, hy', rfl⟩ := List.mem_map.mp hd
      have hz := e3 y (hy y hy')
      have : y.2.2 ∈ ds := by rw [e2]; exact List.mem_map_of_mem (f := fun z : V × NestedKey × D => z.2.2) (hy y hy')
      obtain ⟨k, hk, ek⟩ := sn.back this
      rw [hz.1] at ek; cases ek
      exact ⟨_, hk, rfl, hz.2.2.2⟩
    refine ⟨p, ys.map fun z => (z.1, z.2.1.data), rfl, by rw [upd_same, List.map_map, List.map_map]; rfl, fun z hz => ?_, fun d hd d' hd' => ?_, .inr fun d hd => ?_, fun z hz => ?_, fun q' zs' pz hq => ?_⟩
    · obtain ⟨y, hy', rfl⟩ := List.mem_map.mp hz
      have := (e3 y (hy y hy')).2.2.1
      have r := (e3 y (hy y hy')).2.1
      rw [← nk_py _ _ (e3 y (hy y hy')).1]
      exact Rep.dp R2.sub _ _ (nk_pl _ _ (e3 y (hy y hy')).1) r
    · obtain ⟨k, hk, rfl, _⟩ := alk d hd
      obtain ⟨k', hk', rfl, _⟩ := alk d' hd'
      exact sn.al k hk k' hk'
    · obtain ⟨k, hk, rfl, ht, _⟩ := alk d hd
      cases k with
      | tup ks => exact ⟨_, rfl⟩
      | _ => cases ht
    · obtain ⟨y, hy', rfl⟩ := List.mem_map.mp hz
      have h8 := (e3 y (hy y hy')).2.2.2.2
      have hd : ∀ k : NestedKey, k.data.depth = k.depth := by
        intro k
        exact DX.depth_data k
      show y.2.1.data.depth ≤ 100
      rw [hd]; omega
    · have hp2 := (List.mergeSort_perm zs' (PySem.W.dataLe false (·.2))).trans pz
      obtain ⟨srt, ps, es⟩ := perm_lift (fun z : V × NestedKey × D => (z.1, z.2.1.data)) hp2 ys rfl
      have tot := PySem.W.sortLe_total (listOrd itemOrd) false fun b : V × PyData => PySem.W.keyToks b.2
      have sp : (zs'.mergeSort (PySem.W.dataLe false (·.2))).Pairwise fun a b => PySem.W.dataLe false (·.2) a b = true := List.pairwise_mergeSort (fun a b c h1 h2 => tot.trans a b c h1 h2) (fun a b => by rw [Bool.or_eq_true]; exact tot.total a b) _
      rw [← es, List.pairwise_map] at sp
      have hkk : ∀ z ∈ zs, nkD z.2.2 = some z.2.1 := fun z hz => (e3 z hz).1
      have fin := ss_pick sn e2 hkk hy (by rw [List.map_map] at hn; exact hn) (fun z hz => by
        have := hall (z.1, z.2.1) (List.mem_map.mpr ⟨z, hz, rfl⟩)
        rw [List.map_map] at this; exact this) ps (List.Pairwise.imp_of_mem (fun {a b} ha hb h => by
          have ka := hkk a (hy a (ps.mem_iff.mp ha))
          have kb := hkk b (hy b (ps.mem_iff.mp hb))
          rw [PySem.W.dataLe_eq] at h
          unfold ltD
          rw [nk_py _ _ ka, nk_py _ _ kb]
          simpa using h) sp)
      rw [← es]
      refine q _ _ ?_
      rw [← fin]
      refine R2.newLst hq ?_ ?_
      · rw [List.map_map]
        exact reps_of fun z hz => (e3 z (hy z (ps.mem_iff.mp hz))).2.1
      · rw [fin]; exact Nat.le_trans (ssD_len _) hzl
def rSS2 (w : World) (K : PySem.W.Frag) : V → Hp → VK → Prop := fun v H Q => rSS w K v H Q ∨ rSSN w K v H Q
theorem b_ss2 {w : World} {K : PySem.W.Frag} {W : Wd G} : B1 K W (rSS2 w K) opSS2 := by
  intro P₀ H₀ P O σ st τ ts H g x dx z Q R rx h q
  cases dx with
  | lst ds =>
    simp only [opSS2] at h
    split at h
    · rename_i hk
      cases h
      rcases hk with hk | hk
      · exact .inl (b_ss P₀ H₀ P O σ st τ ts H g x (.lst ds) _ Q R rx (by simp only [opSS, hk, if_true]) q)
      · obtain ⟨a, xs, rfl, sq, hz, rs⟩ := rd1_lst.mp rx
        exact .inr (b_ssN R hk (.inl (SqL.of sq)) rs hz q)
    · cases h
  | tup ds =>
    simp only [opSS2] at h
    split at h
    · rename_i hk
      cases h
      rcases hk with hk | hk
      · exact .inl (b_ss P₀ H₀ P O σ st τ ts H g x (.tup ds) _ Q R rx (by simp only [opSS, hk, if_true]) q)
      · obtain ⟨a, xs, rfl, sq, hz, rs⟩ := rd1_tup.mp rx
        exact .inr (b_ssN R hk (.inr (R.sub.sqT sq.sq)) rs hz q)
    · cases h
  | _ => cases h
end DL
/-! DX9: sorted(x), x a list, a tuple, or what else can be gone through. -/
namespace DX
open PySem PySem.Spec PyProof.Rows L2
end DX
namespace DL
open PySem PySem.Spec PyProof.Rows L2
variable {G : Type}
theorem CallR.or {X : Cx} {f : Value} {r r' : List V → Hp → VK → Prop} (h : CallR X f r) (h' : CallR X f r') : CallR X f (fun vs H Q => r vs H Q ∨ r' vs H Q) := fun pins s σ H vs us Q I rv q => q.elim (h pins s σ H vs us Q I rv) (h' pins s σ H vs us Q I rv)
section
variable {C : CF} {Fam : Wd G → Prop} {a b c : Expr} {fa fb fc : M G S} {pos p pos2 p2 : Pos}
theorem pe_set2 {ta : TE} (j : C.ι) (hm2 : C.mg "set" = none) (pa : PE (C.X j) a ta) (hg2 : Gl (C.X j) "set") (he : starEach [a] (C.X j).env = (false, eval a (C.X j).env) :: starEach [] (C.X j).env) :
    PE (C.X j) (.Call (.Name "set" p2) [a] [] pos2) (tCB (fun vs H Q => DX.rSetK C.w C.K vs H Q ∨ DX.rSetN C.w C.K vs H Q) (tCons ta tNil)) := by
  have hu := C.un j
  exact pe_callTy (T := "set") (CallR.or (by rw [← C.hK j, ← C.hw j]; exact DX.cr_setK (C.calm j) (by omega)) (by rw [← C.hK j, ← C.hw j]; exact DX.cr_setN (C.calm j) (by omega))) hg2 (by rw [C.hmg j]; exact hm2) (by decide +kernel) (pa_cons pa pa_nil he) (he := he)
theorem d_ss2 (hm : C.mg "sorted" = none) (hm2 : C.mg "set" = none) (ha : DE C Fam a fa) (hg : ∀ j, Gl (C.X j) "sorted" := by intro _; rfl) (hg2 : ∀ j, Gl (C.X j) "set" := by intro _; rfl)
    (he : ∀ j, starEach [a] (C.X j).env = (false, eval a (C.X j).env) :: starEach [] (C.X j).env := by intro _; rfl) : DE C Fam (.Call (.Name "sorted" p) [.Call (.Name "set" p2) [a] [] pos2] [] pos) (mUn opSS2 fa) := by
  obtain ⟨ta, pa, ea⟩ := ha.ex
  refine ⟨tUn (rSS2 C.w C.K) ta, fun j => ?_, fun W h => ev_un (ea W h) b_ss2⟩
  have hu := C.un j
  exact pe_callB (id := "sorted") (r := DX.rSortO C.w C.K) (by rw [← C.hK j, ← C.hw j]; exact DX.cr_sortO (C.calm j) (by omega)) (hg j) (by rw [C.hmg j]; exact hm) (by decide +kernel) (pa_cons (pe_set2 j hm2 (pa j) (hg2 j) (he j)) pa_nil)
end
/-! ### sorted(list), sorted(tuple), sorted(dict of texts) -/
def isTp : D → Bool
  | .tup _ => true
  | _ => false
def isAt : D → Bool
  | .tup _ => false
  | .non => false
  | .dct _ => false
  | .dcn _ => false
  | .obj _ => false
  | _ => true
theorem depth_mem : ∀ {ds : List D} {n : Nat}, PyData.depthAll (D.pys ds) ≤ n → ∀ d ∈ ds, d.py.depth ≤ n
  | d :: ds, n, h, e, he => by
    simp only [D.pys, PyData.depthAll] at h
    rcases List.mem_cons.mp he with rfl | he
    · omega
    · exact depth_mem (by omega) e he
end DL
namespace DL
open PySem PySem.Spec PyProof.Rows L2
/-! ### powers of greater numbers -/
/-! ### x is True -/
end DL
namespace DL
open PySem PySem.Spec PyProof.Rows L2
variable {G : Type}
/-! ### t * n -/
theorem mul_one_t (l : Addr) (vs : Array Value) (n : Nat) (dd : Option Addr) (sl : Array (Option Value)) (u : Tok) :
    Meets (Builtin.«tuple.__mul__» ⟨[.ref l, .int 1 u], []⟩) (fun _ R s => s.heap.get? l = some ⟨.type "tuple", dd, .seq vs n, sl⟩ ∧ R (.ok (.ret (.ref l))) s) :=
  .of_wp fun prog w A R s h => by
    obtain ⟨hp, g, d, tk, os⟩ := s
    obtain ⟨hl, h⟩ := h
    have f1 := AutoSeq1.idx_int
    have c1 : (vs.isEmpty || (1 : Int) == 1) = true := by simp
    wp_walk using wpAny_loadPart' hl
    exact ⟨_, rfl, h⟩
def rRepF (K : PySem.W.Frag) : R2 := fun x y H Q => ∃ l k xs, x = .ref l ∧ y = .int k ∧ SqT K H l xs ∧ xs ≠ [] ∧ 1 ≤ k ∧ k ≤ 1000 ∧ xs.length ≤ 1000 ∧ (k = 1 → Q (.ref l) H) ∧ (k ≠ 1 → DY.NewT H (List.replicate k.toNat xs).flatten Q)
theorem rep_vals {xs : List V} {its : List Value} (r : Vals xs its) : ∀ m : Nat, Vals (List.replicate m xs).flatten (List.replicate m its).flatten
  | 0 => .nil
  | m + 1 => by
    rw [List.replicate_succ, List.replicate_succ, List.flatten_cons, List.flatten_cons]
    exact r.append (rep_vals r m)
theorem flat_len {α : Type} (l : List α) : ∀ m : Nat, (List.replicate m l).flatten.length = m * l.length
  | 0 => by simp
  | m + 1 => by rw [List.replicate_succ, List.flatten_cons, List.length_append, flat_len l m, Nat.succ_mul]; omega
theorem op_repF {X : Cx} : OpR X (binaryOp .Mult) (rRepF X.K) := by
  intro pins s σ H x y v u Q I rx ry h
  obtain ⟨l, k, xs, rfl, rfl, hT, hne, h1, h2, hz, q1, q2⟩ := h
  cases rx
  obtain ⟨t, rfl⟩ := ry
  obtain ⟨its, r, ⟨⟨cls, dd, data, sl⟩, ho, rfl, n, rfl⟩, hs⟩ := I.tuple hT
  have le : its.length = xs.length := r.length.symm
  have pos : 0 < xs.length := List.length_pos_iff.mpr hne
  have nonE : its.toArray.isEmpty = false := by
    cases its with
    | nil => simp at le; omega
    | cons a b => rfl
  have szA : its.toArray.size = xs.length := by rw [List.size_toArray, le]
  have main : wpAny (model X.prog X.w) X.A (call (.builtin "tuple.__mul__") [.ref l, .int k t]) (EP X pins σ Q) X.xe s := by
    by_cases e : k = 1
    · subst e
      exact call_meets F.slot_tuple_mul ⟨_, ho, rfl⟩ F.entry_tuple_mul (F.args_tuple_mul_2 _ _) (mul_one_t l its.toArray n dd sl t) ⟨ho, .ref l, H, I, rfl, q1 rfl⟩
    · have lim : k.toNat * xs.length ≤ 1000 * 1000 := Nat.mul_le_mul (by omega) hz
      have prod : (((its.toArray.size : Nat) : Int) * k) ≤ 1000000 := by
        rw [szA]
        have : ((xs.length : Nat) : Int) * k ≤ 1000 * k := Int.mul_le_mul_of_nonneg_right (by omega) (by omega)
        omega
      have many : Builtin.Tuple.tupleTooMany (((its.toArray.size : Nat) : Int) * k) = false := by
        unfold Builtin.Tuple.tupleTooMany
        rw [sizeLine_eq]; exact decide_eq_false (by omega)
      have flen : (List.replicate k.toNat its).flatten.length ≤ sizeLine := by rw [flat_len, le, sizeLine_eq]; omega
      refine call_meets F.slot_tuple_mul ⟨_, ho, rfl⟩ F.entry_tuple_mul (F.args_tuple_mul_2 _ _) (tuple_mulW l its.toArray n dd sl k t (by rw [decide_eq_false (by omega), decide_eq_false (by omega)]; rfl) (by rw [nonE, Bool.false_or]; exact beq_eq_false_iff_ne.mpr e)
        (by rw [nonE, Bool.or_false]; exact decide_eq_false (by omega)) (by omega) many (by rw [size_rep, List.size_toArray]; exact flen)) ⟨ho, ?_⟩
      rw [size_rep]
      exact DY.laidT (h' := s.heap) (tk := s.toks) I (rep_vals r _) (by rw [flat_len, sizeLine_eq]; omega) (q2 e)
  exact wpAny_binaryOp_repeat_ref (T := "tuple") (U := "int") (by decide) ⟨_, ho, rfl⟩ (fun s' => typeIs_int s' k t) noFill_tuple_mul F.fills_int_mul F.slot_int_rmul repeat_tuple F.slot_int_index.lookup
    (call_meets F.slot_int_rmul (typeIs_int s k t) F.entry_int_rmul (F.args_int_rmul_2 _ _) (int_rmul_tuple k t l its.toArray n dd sl) ⟨ho, rfl, ⟨_, ho, rfl⟩, main⟩)
def opMul2 : D → D → Option S
  | .tup a, .int k => if a ≠ [] ∧ 1 ≤ k ∧ k ≤ 1000 ∧ a.length ≤ 1000 then some (.sh (.tup (List.replicate k.toNat a).flatten)) else none
  | a, b => opMul a b
theorem b_mul2 {K : PySem.W.Frag} {W : Wd G} : B2 K W (fun x y H Q => (rI CMulW (fun i j => .int (i * j)) x y H Q ∨ rRep x y H Q) ∨ rRepF K x y H Q) opMul2 := by
  intro P₀ H₀ P O σ st τ ts H g x y dx dy z Q R rx ry h q
  have old : opMul dx dy = some z → (rI CMulW (fun i j => .int (i * j)) x y H Q ∨ rRep x y H Q) ∨ rRepF K x y H Q := fun h => .inl (b_mul P₀ H₀ P O σ st τ ts H g x y dx dy z Q R rx ry h q)
  cases dx with
  | tup a =>
    cases dy with
    | int k =>
      simp only [opMul2] at h
      split at h
      · rename_i hc
        cases h
        have rx0 := rx
        obtain ⟨ad, xs, rfl, sq, hz, rs⟩ := rd1_tup.mp rx
        rw [rd1_int] at ry
        have hl := rs.length
        refine .inr ⟨ad, k, xs, rfl, ry, R.sub.sqT sq.sq, fun e => hc.1 (List.eq_nil_of_length_eq_zero (by rw [← hl, e]; rfl)), hc.2.1, hc.2.2.1, by omega, fun e => ?_, fun e => fun p ob hp hd => ?_⟩
        · subst e
          refine q _ _ (R.ofSh ?_)
          have : (List.replicate (1 : Int).toNat a).flatten = a := by simp
          rw [this]; exact rx0
        · have lim : k.toNat * a.length ≤ 1000 * 1000 := Nat.mul_le_mul (by omega) hc.2.2.2
          exact q _ _ (R.newTup hp hd (rs.rep _) (by rw [flat_len, sizeLine_eq]; omega))
      · cases h
    | _ => exact old h
  | _ => exact old (by cases dy <;> exact h)
section
variable {C : CF} {Fam : Wd G → Prop} {a b c : Expr} {fa fb fc : M G S} {pos p pos2 p2 : Pos}
theorem OpR.or {X : Cx} {f : Value → Value → Sem Value} {r r' : R2} (h : OpR X f r) (h' : OpR X f r') : OpR X f (fun x y H Q => r x y H Q ∨ r' x y H Q) := fun pins s σ H x y v u Q I rx ry q => q.elim (h pins s σ H x y v u Q I rx ry) (h' pins s σ H x y v u Q I rx ry)
theorem d_mul2 (ha : DE C Fam a fa) (hb : DE C Fam b fb) : DE C Fam (.BinOp a .Mult b pos) (mOp opMul2 fa fb) :=
  d_op (r := fun x y H Q => (rI CMulW (fun i j => .int (i * j)) x y H Q ∨ rRep x y H Q) ∨ rRepF C.K x y H Q) (fun j => by rw [← C.hK j]; exact OpR.or (op_mulW.or op_rep) op_repF) (fun _ _ => b_mul2) ha hb
end
end DL
namespace DL
open PySem PySem.Spec PyProof.Rows L2
variable {G : Type}
/-! ### d.get(k, x) -/
def isDc : D → Bool
  | .dct _ => true
  | _ => false
def getK (dd : D) : D → D → Option S
  | .dct kvs, k => match keyD k with
    | some _ => some (.sh ((dlook kvs k).getD dd))
    | none => none
  | _, _ => none
def mGet2 (fo fk fd : M G S) : M G S := fun st g => bnd (fo st g) fun x st g => (peek x st).bind fun d0 => if isDc d0 = true then bnd (fk st g) fun k st g => bnd (mTake fd st g) fun dd st g => (peek x st).bind fun dx => (peek k st).bind fun dk => (getK dd dx dk).map fun z => (z, st, g) else none
end DL
namespace DL
open PySem PySem.Spec PyProof.Rows L2
variable {G : Type}
/-! ### [e for a in xs for b in ys] -/
section
variable {K : PySem.W.Frag} {W : Wd G} {P₀ H₀ P H : Hp} {O : Addr → Option Tag} {σ : L2.St} {st : Sl} {τ : List V} {ts : List S} {g : G} {d : D}
theorem TOk.at : ∀ {ρ : List V} {rs : List S} {v : V} {s : S}, ρ.length = rs.length → TOk K W P O H σ (ρ ++ (v :: τ)) (rs ++ (s :: ts)) → SOk K W P O H σ (.tmp τ.length) v s
  | [], [], _, _, _, h => h.1
  | _ :: _, _ :: _, _, _, hl, h => TOk.at (by simpa using hl) h.2
  | [], _ :: _, _, _, hl, _ => by simp at hl
  | _ :: _, [], _, _, hl, _ => by simp at hl
end
end DL
namespace DL
open PySem PySem.Spec PyProof.Rows L2
end DL
namespace DX
open PySem PySem.Spec PyProof.Rows L2
/-! ### sorted(d.items()) -/
end DX
namespace DL
open PySem PySem.Spec PyProof.Rows L2
/-! ### sorted(d.items()) -/
end DL
namespace DL
open PySem PySem.Spec PyProof.Rows L2
variable {G : Type}
/-! ### t.index(x), a tuple of texts -/
def isTu : D → Bool
  | .tup _ => true
  | _ => false
def idxS (z : Str) : List Str → Nat
  | [] => 0
  | y :: ys => if y = z then 0 else idxS z ys + 1
def opIdx : D → D → Option S
  | .tup ds, .str z => match textsD ds with
    | some ys => if z ∈ ys then some (.sh (.int (idxS z ys))) else none
    | none => none
  | _, _ => none
def mIdx (fo fk : M G S) : M G S := fun st g => bnd (fo st g) fun x st g => (peek x st).bind fun d0 => if isTu d0 = true then bnd (fk st g) fun k st g => (peek x st).bind fun dx => (peek k st).bind fun dk => (opIdx dx dk).map fun z => (z, st, g) else none
end DL
namespace DL
open PySem PySem.Spec PyProof.Rows L2
variable {G : Type}
/-! ### a dict at d may be locked or not: all reads stay -/
structure Alike (d : Addr) (ks : List (Key × V)) (P P' : Hp) : Prop where
  off : ∀ a, a ≠ d → P' a = P a
  old : ∃ o, P d = some o ∧ IsDK o ks
  new : ∃ o, P' d = some o ∧ IsDK o ks
section
variable {K : PySem.W.Frag} {W : Wd G} {d : Addr} {ks : List (Key × V)} {P P' : Hp}
theorem Alike.lst {a : Addr} {xs : List V} (h : Alike d ks P P') (e : P a = some (.lst xs)) : P' a = some (.lst xs) := by
  by_cases z : a = d
  · subst z
    obtain ⟨o, e2, i⟩ := h.old
    rw [e] at e2; cases e2
    rcases i with i | ⟨_, i⟩ <;> cases i
  · rw [h.off a z]; exact e
theorem Alike.tup {a : Addr} {xs : List V} (h : Alike d ks P P') (e : DY.TupP K P a xs) : DY.TupP K P' a xs := by
  rcases e with ⟨o, e, hd⟩ | e
  · refine .inl ⟨o, ?_, hd⟩
    by_cases z : a = d
    · subst z
      obtain ⟨o', e2, i⟩ := h.old
      rw [e] at e2; cases e2
      rcases i with i | ⟨_, i⟩ <;> cases i
    · rw [h.off a z]; exact e
  · exact .inr e
theorem IsDK.one {o : HO} {a b : List (Key × V)} (h : IsDK o a) (h' : IsDK o b) : a = b := by
  rcases h with rfl | ⟨x, rfl⟩
  · rcases h' with h' | ⟨_, h'⟩
    · cases h'; rfl
    · cases h'
  · rcases h' with h' | ⟨_, h'⟩
    · cases h'
    · cases h'; rfl
theorem Alike.dct {a : Addr} {o : HO} {kk : List (D × V)} (h : Alike d ks P P') (e : P a = some o) (i : DObj o kk) : ∃ o', P' a = some o' ∧ DObj o' kk := by
  by_cases z : a = d
  · subst z
    obtain ⟨o1, e1, i1⟩ := h.old
    obtain ⟨o2, e2, i2⟩ := h.new
    rw [e] at e1; cases e1
    obtain ⟨kvs, hk, rfl⟩ := i
    have := hk.one i1
    subst this
    exact ⟨o2, e2, _, i2, rfl⟩
  · exact ⟨o, by rw [h.off a z]; exact e, i⟩
theorem Alike.dcn {w : World} {a : Addr} {o : HO} {xs : List (NestedKey × Addr × Value)} (h : Alike d ks P P') (e : P a = some o) (i : IsDN w a o xs) : P' a = some o := by
  by_cases z : a = d
  · subst z
    obtain ⟨o1, e1, i1⟩ := h.old
    rw [e] at e1; cases e1
    rcases i with rfl | ⟨_, rfl⟩
    · rcases i1 with i1 | ⟨_, i1⟩ <;> cases i1
    · rcases i1 with i1 | ⟨_, i1⟩ <;> cases i1
  · rw [h.off a z]; exact e
mutual
theorem Alike.rep (h : Alike d ks P P') : ∀ (x : D) (v : V), Rep K W P x v → Rep K W P' x v
  | .non, v, r => r
  | .bl _, v, r => r
  | .int _, v, r => r
  | .str _, v, r => r
  | .tup xs, v, r => by
    simp only [Rep] at r ⊢
    obtain ⟨a, ys, e, t, z, r⟩ := r
    exact ⟨a, ys, e, h.tup t, z, Alike.reps h xs ys r⟩
  | .lst xs, v, r => by
    simp only [Rep] at r ⊢
    obtain ⟨a, ys, e, t, z, r⟩ := r
    exact ⟨a, ys, e, h.lst t, z, Alike.reps h xs ys r⟩
  | .dct kvs, v, r => by
    simp only [Rep] at r ⊢
    obtain ⟨a, o, kk, e, t, i, r⟩ := r
    obtain ⟨o', t', i'⟩ := h.dct t i
    exact ⟨a, o', kk, e, t', i', Alike.repk h kvs kk r⟩
  | .dcn kvs, v, r => by
    simp only [Rep] at r ⊢
    obtain ⟨a, o, xs, e, t, i, r⟩ := r
    exact ⟨a, o, xs, e, h.dcn t i, i, Alike.repn h kvs xs r⟩
  | .obj _, v, r => r
theorem Alike.reps (h : Alike d ks P P') : ∀ (xs : List D) (vs : List V), Reps K W P xs vs → Reps K W P' xs vs
  | [], vs, r => r
  | x :: xs, vs, r => by
    simp only [Reps] at r ⊢
    obtain ⟨v, r', e, h1, h2⟩ := r
    exact ⟨v, r', e, Alike.rep h x v h1, Alike.reps h xs r' h2⟩
theorem Alike.repk (h : Alike d ks P P') : ∀ (xs : List (D × D)) (vs : List (D × V)), Repk K W P xs vs → Repk K W P' xs vs
  | [], vs, r => r
  | (k, x) :: xs, vs, r => by
    simp only [Repk] at r ⊢
    obtain ⟨v, r', e, h1, h2⟩ := r
    exact ⟨v, r', e, Alike.rep h x v h1, Alike.repk h xs r' h2⟩
theorem Alike.repn (h : Alike d ks P P') : ∀ (ds : List (D × D)) (xs : List (NestedKey × Addr × Value)), Repn K W P ds xs → Repn K W P' ds xs
  | [], xs, r => r
  | (k, x) :: ds, xs, r => by
    simp only [Repn] at r ⊢
    obtain ⟨nk, b, u, v, r', e, h1, h2, h3, h4, h5, h6⟩ := r
    exact ⟨nk, b, u, v, r', e, h1, h2, Alike.rep h k _ h3, h4, Alike.rep h x v h5, Alike.repn h ds r' h6⟩
end
theorem Alike.own {a : Addr} {o : HO} {x : D} (h : Alike d ks P P') (r : Own K W P a o x) : Own K W P' a o x := by
  cases x with
  | lst xs => obtain ⟨ys, e, z, r⟩ := r; exact ⟨ys, e, z, h.reps _ _ r⟩
  | dct kvs => obtain ⟨kk, i, r⟩ := r; exact ⟨kk, i, h.repk _ _ r⟩
  | dcn kvs => obtain ⟨xs, i, r⟩ := r; exact ⟨xs, i, h.repn _ _ r⟩
  | _ => exact r.elim
theorem Alike.sok {O : Addr → Option Tag} {H H' : Hp} {σ : L2.St} {t : Tag} {v : V} {s : S} (h : Alike d ks P P') (hO : O d = none) (hH : ∀ a, a ≠ d → H' a = H a) (r : SOk K W P O H σ t v s) : SOk K W P' O H' σ t v s := by
  cases s with
  | sh x => exact h.rep _ _ r
  | ow x =>
    obtain ⟨a, o, e, eO, eH, q⟩ := r
    have hne : a ≠ d := fun z => by rw [z, hO] at eO; cases eO
    exact ⟨a, o, e, eO, by rw [hH a hne]; exact eH, h.own q⟩
  | «at» i => exact r
  | any => trivial
theorem Alike.tok {O : Addr → Option Tag} {H H' : Hp} {σ : L2.St} (h : Alike d ks P P') (hO : O d = none) (hH : ∀ a, a ≠ d → H' a = H a) : ∀ {τ : List V} {ts : List S}, TOk K W P O H σ τ ts → TOk K W P' O H' σ τ ts
  | [], [], _ => trivial
  | v :: τ, s :: ts, r => ⟨h.sok hO hH r.1, Alike.tok h hO hH r.2⟩
  | [], _ :: _, r => r.elim
  | _ :: _, [], r => r.elim
end
end DL
namespace DL
open PySem PySem.Spec PyProof.Rows L2
/-! ### locking a shared dict, and opening it again -/
end DL
namespace DL
open PySem PySem.Spec PyProof.Rows L2
/-! ### a comprehension over what a name holds: also a dict -/
end DL
namespace DL
open PySem PySem.Spec PyProof.Rows L2
end DL
namespace DL
open PySem PySem.Spec PyProof.Rows L2
variable {G : Type}
/-- a, b = a list -/
def mUnpL (ps : List Pt) (f : M G S) : M G Fl := fun st g => bnd (mTake f st g) fun d st g => match d with
  | .lst ds => (asgs ps ds st).map fun st => (.nx, st, g)
  | _ => none
end DL
namespace DL
open PySem PySem.Spec PyProof.Rows L2
variable {G : Type}
/-! ### for p in x: x a name that holds a dict -/
theorem PS.or {X : Cx} {s : Stmt} {t t' : TS} (h : PS X s t) (h' : PS X s t') : PS X s (fun D σ H => t D σ H ∨ t' D σ H) := ⟨fun pins s σ H D I q => q.elim (h.run pins s σ H D I) (h'.run pins s σ H D I)⟩
end DL
/-! dict(zip(a, b)) of two tuples. -/
namespace DX
open PySem PySem.Spec PyProof.Rows L2
end DX
namespace DX
open PySem PySem.Spec PyProof.Rows L2
end DX
namespace DL
open PySem PySem.Spec PyProof.Rows L2
variable {G : Type}
/-! ### dict(zip(a, b)), two tuples -/
def keyLs : List D → Option (List Key)
  | [] => some []
  | d :: ds => match keyD d with
    | some k => (keyLs ds).map (k :: ·)
    | none => none
def mDictZip (fa : M G (List D)) : M G S := fun st g => bnd (fa st g) fun ds st g => match ds with
  | [.tup xs, .tup ys] => if (keyLs xs).isSome = true then some (.ow (.dct (mergeD (xs.zip ys))), st, g) else none
  | _ => none
end DL
namespace DL
open PySem PySem.Spec PyProof.Rows L2
variable {G : Type}
/-! ### x, d[k] = a, b -/
def mParD (i j : Nat) (fa fb fk : M G S) : M G Fl := fun st g => bnd (mTake fa st g) fun da st g => bnd (mTake fb st g) fun db st g => if i < st.length then mDPut j fk (mC db) (st.set i (some (.sh da))) g else none
end DL
namespace DX
open PySem PySem.Spec PyProof.Rows L2 DL
/-! ### dicts whose keys are nested tuples -/
/-- the tuple at b is the key k -/
def NKy (K : PySem.W.Frag) (H : Hp) (b : Addr) (k : NestedKey) : Prop := Dp K H (.ref b) k.data ∧ k.depth ≤ 8
/-- a dict at a with the entries xs; the empty dict is one -/
def NDt (w : World) (H : Hp) (a : Addr) (xs : List (NestedKey × Addr × Value)) : Prop := (∃ o, H a = some o ∧ IsDN w a o xs) ∨ (xs = [] ∧ Rd H a (.dK []))
/-- one that may be written -/
def NDm (w : World) (H : Hp) (a : Addr) (xs : List (NestedKey × Addr × Value)) : Prop := H a = some (nDictO w a xs) ∨ (xs = [] ∧ H a = some (.dK []))
theorem NDm.any {w : World} {H : Hp} {a : Addr} {xs : List (NestedKey × Addr × Value)} (h : NDm w H a xs) : NDt w H a xs := by
  rcases h with h | ⟨h, h2⟩
  · exact .inl ⟨_, h, .inl rfl⟩
  · exact .inr ⟨h, .inl h2⟩
section
variable {X : Cx} {pins : List (Addr × Obj)} {σ : L2.St} {H : Hp} {s : Shared} {a b : Addr} {k : NestedKey} {xs : List (NestedKey × Addr × Value)} {A : Around} {E : Value → Shared → Prop}
theorem NKy.is (I : Inv X pins σ H s) (h : NKy X.K H b k) : (nestedKind X.prog X.w).is s.heap k b := by
  obtain ⟨as, r⟩ := Dp.reads I _ _ (.ref b) h.1 rfl
  exact ⟨nested_of _ _ _ r, h.2⟩
theorem NDt.of (I : Inv X pins σ H s) (h : NDt X.w H a xs) (hk : ∀ x ∈ xs, NKy X.K H x.2.1 x.1) : (a == sysModules) = false ∧ xs.length ≤ sizeLine ∧ s.heap.DictOfH (nestedKind X.prog X.w) a xs := by
  rcases h with ⟨o, e, h⟩ | ⟨rfl, e⟩
  · have x := I.hok a o e
    have y : ObjOk X.prog X.w H s.heap a (nDictO X.w a xs) := by
      rcases h with rfl | ⟨ob, rfl⟩
      · exact x
      · exact x.2
    obtain ⟨⟨h1, h2, h3, o, es, ep, h4, h5, h6, h7⟩, _, _⟩ := y
    exact ⟨h1, h2, o, es, ep, h4, h5, h6, h7, fun x hx => (hk x hx).is I, h3⟩
  · obtain ⟨z, h1, vs, rel, dd⟩ := dk_rd I.hok e
    cases rel
    obtain ⟨o, es, ep, h4, h5, h6, h7, h8, _⟩ := dd
    refine ⟨h1, Nat.zero_le _, o, es, ep, h4, h5, h6, ?_, (fun x hx => nomatch hx), List.nodup_nil⟩
    cases h8' : es.toList with
    | nil => rfl
    | cons e es' => rw [h8'] at h8; cases h8
end
end DX
namespace DL
open PySem PySem.Spec PyProof.Rows L2
variable {G : Type}
/-! ### dicts whose keys are tuples -/
def okNK (d : D) : Bool := match d, nkD d with
  | .tup _, some k => decide (k.depth ≤ 8)
  | _, _ => false
def nEq (a b : D) : Bool := match nkD a, nkD b with
  | some x, some y => decide (x = y)
  | _, _ => false
/-- the entries of a dict with tuple keys -/
def nD : D → Option (List (D × D))
  | .dcn kvs => some kvs
  | .dct [] => some []
  | _ => none
def nput (kvs : List (D × D)) (k v : D) : List (D × D) := if (kvs.any fun p => nEq p.1 k) = true then kvs.map (fun p => if nEq p.1 k = true then (p.1, v) else p) else kvs ++ [(k, v)]
section
variable {K : PySem.W.Frag} {W : Wd G} {P H : Hp} {kvs : List (D × D)} {xs : List (NestedKey × Addr × Value)}
theorem Repn.len : ∀ {kvs : List (D × D)} {xs : List (NestedKey × Addr × Value)}, Repn K W P kvs xs → kvs.length = xs.length
  | [], xs, h => by simp only [Repn] at h; subst h; rfl
  | (k, d) :: ds, xs, h => by
    simp only [Repn] at h
    obtain ⟨nk, b, u, v, r, rfl, h1, h2, h3, h4, h5, h6⟩ := h
    rw [List.length_cons, List.length_cons, Repn.len h6]
theorem Repn.app : ∀ {kvs : List (D × D)} {xs : List (NestedKey × Addr × Value)} {k d : D} {nk : NestedKey} {b : Addr} {u : Value} {v : V}, Repn K W P kvs xs → nkD k = some nk → nk.depth ≤ 8 → Rep K W P k (.ref b) → RelV v u → Rep K W P d v → Repn K W P (kvs ++ [(k, d)]) (xs ++ [(nk, b, u)])
  | [], xs, k, d, nk, b, u, v, h, a1, a2, a3, a4, a5 => by
    simp only [Repn] at h; subst h
    show Repn K W P [(k, d)] [(nk, b, u)]
    simp only [Repn]
    exact ⟨nk, b, u, v, [], rfl, a1, a2, a3, a4, a5, rfl⟩
  | (k', d') :: ds, xs, k, d, nk, b, u, v, h, a1, a2, a3, a4, a5 => by
    simp only [Repn] at h
    obtain ⟨nk', b', u', v', r, rfl, h1, h2, h3, h4, h5, h6⟩ := h
    show Repn K W P ((k', d') :: (ds ++ [(k, d)])) ((nk', b', u') :: (r ++ [(nk, b, u)]))
    simp only [Repn]
    exact ⟨nk', b', u', v', _, rfl, h1, h2, h3, h4, h5, Repn.app h6 a1 a2 a3 a4 a5⟩
theorem Repn.has {k : D} {nk : NestedKey} (a1 : nkD k = some nk) : ∀ {kvs : List (D × D)} {xs : List (NestedKey × Addr × Value)}, Repn K W P kvs xs → (kvs.any fun p => nEq p.1 k) = (atKey xs nk).isSome
  | [], xs, h => by simp only [Repn] at h; subst h; rfl
  | (k', d') :: ds, xs, h => by
    simp only [Repn] at h
    obtain ⟨nk', b', u', v', r, rfl, h1, h2, h3, h4, h5, h6⟩ := h
    have ih := Repn.has a1 h6
    have e : nEq k' k = decide (nk' = nk) := by simp [nEq, h1, a1]
    rw [List.any_cons, ih]
    simp only [e, atKey, List.find?_cons]
    by_cases c : nk' = nk
    · simp [c]
    · simp [c]
theorem Repn.upd {k d : D} {nk : NestedKey} {u : Value} {v : V} (a1 : nkD k = some nk) (a4 : RelV v u) (a5 : Rep K W P d v) : ∀ {kvs : List (D × D)} {xs : List (NestedKey × Addr × Value)}, Repn K W P kvs xs → Repn K W P (kvs.map fun p => if nEq p.1 k = true then (p.1, d) else p) (xs.map (putAt nk u))
  | [], xs, h => by simp only [Repn] at h; subst h; simp [Repn]
  | (k', d') :: ds, xs, h => by
    simp only [Repn] at h
    obtain ⟨nk', b', u', v', r, rfl, h1, h2, h3, h4, h5, h6⟩ := h
    have ih := Repn.upd a1 a4 a5 h6
    have e : nEq k' k = decide (nk' = nk) := by simp [nEq, h1, a1]
    rw [List.map_cons, List.map_cons]
    by_cases c : nk' = nk
    · simp only [e, c, decide_true, if_true]
      simp only [Repn]
      refine ⟨nk', b', u, v, _, ?_, h1, h2, h3, a4, a5, ih⟩
      simp [putAt, c]
    · simp only [e, c, decide_false, Bool.false_eq_true, if_false]
      simp only [Repn]
      refine ⟨nk', b', u', v', _, ?_, h1, h2, h3, h4, h5, ih⟩
      simp [putAt, c]
theorem Repn.put {k d : D} {nk : NestedKey} {b : Addr} {u : Value} {v : V} (h : Repn K W P kvs xs) (a1 : nkD k = some nk) (a2 : nk.depth ≤ 8) (a3 : Rep K W P k (.ref b)) (a4 : RelV v u) (a5 : Rep K W P d v) : Repn K W P (nput kvs k d) (storedH xs nk b u) := by
  unfold nput storedH
  rw [h.has a1]
  split
  · exact h.upd a1 a4 a5
  · exact h.app a1 a2 a3 a4 a5
end
/-! ### d[k] = v -/
section
variable {C : CF} {Fam : Wd G → Prop} {a b : Expr} {fk fv fa : M G S} {pos p p1 p2 : Pos}
def mDPutN (i : Nat) (fk fv : M G S) : M G Fl := fun st g => bnd (mTake fv st g) fun dv st g => bnd (mAt i st g) fun _ st g => bnd (fk st g) fun k st g => (peek k st).bind fun dk =>
  match st[i]? with
  | some (some (.ow d)) => (nD d).bind fun kvs => if okNK dk = true ∧ kvs.length < sizeLine then some (.nx, st.set i (some (.ow (.dcn (nput kvs dk dv)))), g) else none
  | _ => none
/-! ### sorted(d) -/
end
end DL
namespace DL
open PySem PySem.Spec PyProof.Rows L2
/-! ### {k: v for p in src if t} -/
end DL
namespace DL
open PySem PySem.Spec PyProof.Rows L2
/-! ### defs that are called by names too -/
theorem kwB_of {K : PySem.W.Frag} {x qual : Str} {params : Arguments} {body : List Stmt} {scope : Scope} {kws : List (Str × V)} {f : Addr} {fd : FuncData} {ps ks : List Str} {pm : List Nat} (F : FunD K x qual params body scope [] kws f fd)
    (h : ∀ (kV doc pmv : Value) (an : Option Addr) (cdv ct : Value) (ws : List Value), ws.length = ks.length → bindArgs (PySem.W.fnOf x qual params body scope .none kV doc pmv an cdv ct) ⟨[], ks.zip ws⟩ = pure (ps.zip (pm.map fun i => ws.getD i .none))) : KwB K fd ps ks pm := by
  obtain ⟨oc, od, dV, kV, doc, pmv, an, cdv, ct, osl, rfl, lk, hcd, hD, hK⟩ := F.ex
  rcases hD with ⟨_, rfl⟩ | ⟨e, _⟩
  · exact fun s ws _ hl => .of_eq (h kV doc pmv an cdv ct ws hl)
  · exact absurd rfl e
def DefOkK (K : PySem.W.Frag) (mg : Str → Option Value) (x : Str) (st : Stmt) (ps : List Str) (kl : List (List Str × List Nat)) : Prop := ∃ f fd, Fun K x x st f fd ∧ mg x = some (.ref f) ∧ Binds K fd ps [] ∧ ∀ q ∈ kl, KwB K fd ps q.1 q.2
section
variable {G : Type} {Fam : Wd G → Prop} {P : Program} {w : World} {K : PySem.W.Frag} {mg : Str → Option Value} {base : Heap} {k n : Nat} {x : Str} {stm : Stmt} {N ps : List Str} {b : M G Fl} {kl : List (List Str × List Nat)}
theorem DefOkK.one (h : DefOkK K mg x stm ps kl) : DefOk K mg x stm ps := let ⟨f, fd, F, hm, hb, _⟩ := h; ⟨f, fd, F, hm, hb⟩
theorem fdk_to (h : DefOkK K mg x stm ps kl) (Sc : FnScope N ps (defScope stm)) (hn : ps.length = n) (hbody : ∀ f, DSs (fcx P w K mg base N k x stm f Sc.nd) Fam (defBody stm) b) : FDK P w K mg base Fam (k + 1) x n (mFn n N.length b) kl :=
  let ⟨f, fd, F, hm, hb, hk⟩ := h
  ⟨f, fd, ps, fnG_to F Sc hn (hbody f), hm, F.kp, hb, hn, hk⟩
end
end DL
namespace DL
open PySem PySem.Spec PyProof.Rows L2
/-! ### the head, with tuples of the module too -/
def flatV : D → V
  | .bl b => .bl b
  | .int i => .int i
  | .str x => .str x
  | _ => .non
def isFlat : D → Bool
  | .bl _ => true
  | .int _ => true
  | .str _ => true
  | .non => true
  | _ => false
def tupN (K : PySem.W.Frag) (x : Str) (ds : List D) : Bool := ds.all isFlat && match K.lookup (He.ga K x) with
  | some ⟨.type c, none, .seq its _, _⟩ => decide (c = "tuple") && (decide (its.size ≤ sizeLine) && He.relAll (ds.map flatV) its.toList)
  | _ => false
def obsE (fa : List He.Fa) (fn : List He.DefD) (tb : List (Str × List D)) (K : PySem.W.Frag) : He.AlD × Bool := (He.obsD fa fn K, tb.all fun q => tupN K q.1 q.2)
def SaysE (fa : List He.Fa) (fn : List He.DefD) (tb : List (Str × List D)) (K : PySem.W.Frag) : Prop := obsE fa fn tb K = (He.valD fn, true)
def obsEG (n : Nat) (fa : List He.Fa) (fn : List He.DefD) (tb : List (Str × List D)) (g : Addr → Option Obj) : He.AlD × Bool := obsE fa fn tb (He.frG g (He.asD g n))
def hookE (n : Nat) (fa : List He.Fa) (fn : List He.DefD) (tb : List (Str × List D)) : PySem.W.Hook where
  α := He.AlD × Bool
  obs := fun s => obsEG n fa fn tb s.heap.get?
  val := fun _ => (He.valD fn, true)
  says := fun _ h => ∃ K : PySem.W.Frag, K.In h ∧ SaysE fa fn tb K
  of := fun _ _ e => ⟨_, He.frG_in, e⟩
  keeps := fun _ _ _ ⟨K, hK, c⟩ k => ⟨K, PySem.W.Frag.In.keeps hK k, c⟩
theorem obsEG_eq {n : Nat} {fa : List He.Fa} {fn : List He.DefD} {tb : List (Str × List D)} {g : Addr → Option Obj} {s : Shared} (h : ∀ a, g a = s.heap.get? a) : obsEG n fa fn tb g = (hookE n fa fn tb).obs s := by
  have e : g = s.heap.get? := funext h
  rw [e] <;> rfl
theorem SaysE.d {fa : List He.Fa} {fn : List He.DefD} {tb : List (Str × List D)} {K : PySem.W.Frag} (c : SaysE fa fn tb K) : He.SaysD fa fn K := congrArg Prod.fst c
theorem SaysE.tup {fa : List He.Fa} {fn : List He.DefD} {tb : List (Str × List D)} {K : PySem.W.Frag} (c : SaysE fa fn tb K) (i : Nat) {x : Str} {ds : List D} (h : tb[i]? = some (x, ds) := by rfl) : tupN K x ds = true :=
  List.all_eq_true.mp (congrArg Prod.snd c : (tb.all fun q => tupN K q.1 q.2) = true) (x, ds) (List.mem_of_getElem? h)
end DL
namespace DL
open PySem
end DL
namespace DX
open PySem PySem.Spec PyProof.Rows L2
end DX
namespace DL
open PySem PySem.Spec PyProof.Rows L2
/-! ### d.update(e), d being the dict of slot i -/
/-! ### x.insert(i, e), x being the list of slot i -/
end DL
namespace DX
open PySem PySem.Spec PyProof.Rows L2
open AutoSeq1 (wpAny_loadPart')
/-! ### enumerate(tuple) -/
end DX
namespace DL
open PySem PySem.Spec PyProof.Rows L2
/-! ### enumerate of a tuple -/
end DL
namespace DL
open PySem PySem.Spec PyProof.Rows L2
/-! ### d.get(k) -/
end DL
namespace DL
open PySem PySem.Spec PyProof.Rows L2
/-! ### an own list is gone through by a comprehension, and is own again after it -/
end DL
/-! DL55: a list is lent to a def. -/
namespace DL
open PySem PySem.Spec PyProof.Rows L2
mutual
/-- no thing of the world within -/
def nob : D → Bool
  | .tup ds => nobs ds
  | .lst ds => nobs ds
  | .dct kvs => nobk kvs
  | .dcn kvs => nobk kvs
  | .obj _ => false
  | .non => true
  | .bl _ => true
  | .int _ => true
  | .str _ => true
def nobs : List D → Bool
  | [] => true
  | d :: ds => nob d && nobs ds
def nobk : List (D × D) → Bool
  | [] => true
  | (k, d) :: ds => nob k && nob d && nobk ds
end
section
variable {G : Type} {K : PySem.W.Frag} {W W' : Wd G} {P : Hp}
mutual
theorem Rep.wld (hp : W.pw = W'.pw) : ∀ (d : D) (v : V), nob d = true → Rep K W P d v → Rep K W' P d v
  | .non, _, _, h => by simpa only [Rep] using h
  | .bl _, _, _, h => by simpa only [Rep] using h
  | .int _, _, _, h => by simpa only [Rep] using h
  | .str _, _, _, h => by simpa only [Rep] using h
  | .obj _, _, n, h => by simp [nob] at n
  | .tup ds, v, n, h => by
    simp only [Rep] at h ⊢
    obtain ⟨a, xs, e, q, z, r⟩ := h
    exact ⟨a, xs, e, q, z, Reps.wld hp ds xs (by simpa [nob] using n) r⟩
  | .lst ds, v, n, h => by
    simp only [Rep] at h ⊢
    obtain ⟨a, xs, e, q, z, r⟩ := h
    exact ⟨a, xs, e, q, z, Reps.wld hp ds xs (by simpa [nob] using n) r⟩
  | .dct kvs, v, n, h => by
    simp only [Rep] at h ⊢
    obtain ⟨a, o, ks, e, q, z, r⟩ := h
    exact ⟨a, o, ks, e, q, z, Repk.wld hp kvs ks (by simpa [nob] using n) r⟩
  | .dcn kvs, v, n, h => by
    simp only [Rep] at h ⊢
    obtain ⟨a, o, xs, e, q, z, r⟩ := h
    exact ⟨a, o, xs, e, q, hp ▸ z, Repn.wld hp kvs xs (by simpa [nob] using n) r⟩
theorem Reps.wld (hp : W.pw = W'.pw) : ∀ (ds : List D) (vs : List V), nobs ds = true → Reps K W P ds vs → Reps K W' P ds vs
  | [], _, _, h => by simpa only [Reps] using h
  | d :: ds, vs, n, h => by
    simp only [Reps] at h ⊢
    simp only [nobs, Bool.and_eq_true] at n
    obtain ⟨v, r, e, h1, h2⟩ := h
    exact ⟨v, r, e, Rep.wld hp d v n.1 h1, Reps.wld hp ds r n.2 h2⟩
theorem Repk.wld (hp : W.pw = W'.pw) : ∀ (ds : List (D × D)) (vs : List (D × V)), nobk ds = true → Repk K W P ds vs → Repk K W' P ds vs
  | [], _, _, h => by simpa only [Repk] using h
  | (k, d) :: ds, vs, n, h => by
    simp only [Repk] at h ⊢
    simp only [nobk, Bool.and_eq_true] at n
    obtain ⟨v, r, e, h1, h2⟩ := h
    exact ⟨v, r, e, Rep.wld hp d v n.1.2 h1, Repk.wld hp ds r n.2 h2⟩
theorem Repn.wld (hp : W.pw = W'.pw) : ∀ (ds : List (D × D)) (xs : List (NestedKey × Addr × Value)), nobk ds = true → Repn K W P ds xs → Repn K W' P ds xs
  | [], _, _, h => by simpa only [Repn] using h
  | (k, d) :: ds, xs, n, h => by
    simp only [Repn] at h ⊢
    simp only [nobk, Bool.and_eq_true] at n
    obtain ⟨nk, b, u, v, r, e, h1, h2, h3, h4, h5, h6⟩ := h
    exact ⟨nk, b, u, v, r, e, h1, h2, Rep.wld hp k _ n.1.1 h3, h4, Rep.wld hp d v n.1.2 h5, Repn.wld hp ds r n.2 h6⟩
end
end
/-! ### arguments, the last one a list that is lent -/
/-! ### the list that is lent, in the def -/
end DL
/-! DL56: list(range(n)); x[k] = v, x being an own list. -/
namespace DL
open PySem PySem.Spec PyProof.Rows L2
variable {G : Type}
theorem Reps.set {K : PySem.W.Frag} {W : Wd G} {P : Hp} {d : D} {v : V} (rv : Rep K W P d v) : ∀ {ds : List D} {vs : List V} (j : Nat), Reps K W P ds vs → Reps K W P (ds.set j d) (vs.set j v)
  | [], vs, j, h => by simp only [Reps] at h; subst h; simp [Reps]
  | e :: ds, vs, 0, h => by
    simp only [Reps] at h
    obtain ⟨u, r, rfl, h1, h2⟩ := h
    simp only [List.set_cons_zero, Reps]
    exact ⟨v, r, rfl, rv, h2⟩
  | e :: ds, vs, j + 1, h => by
    simp only [Reps] at h
    obtain ⟨u, r, rfl, h1, h2⟩ := h
    simp only [List.set_cons_succ, Reps]
    exact ⟨u, _, rfl, h1, Reps.set rv j h2⟩
end DL
/-! DL57: xs.index(k), a list of ints. -/
namespace DL
open PySem PySem.Spec PyProof.Rows L2
end DL
/-! DL58: f-strings, str(i), int(text), x += n, raise that is never reached. -/
namespace DL
open PySem PySem.Spec PyProof.Rows L2
variable {G : Type}
/-! ### raise -/
def mNever : M G Fl := fun _ _ => none
theorem d_raise {C : CF} {Fam : Wd G → Prop} {s : Stmt} : DS C Fam s mNever := ⟨fun _ _ _ => False, fun j => ⟨fun pins s σ H Q I h => h.elim⟩, fun W hW P₀ H₀ σ st τ ts H g fl st' g' E n R h q => by cases h⟩
/-! ### str(i), int(text) -/
def opStrI : D → Option S
  | .int i => if i.natAbs.log2 < 1920 then some (.sh (.str (toString i))) else none
  | _ => none
def opIntS : D → Option S
  | .str a => if a.length ≤ 640 then (PySem.intText? a).map fun n => .sh (.int n) else none
  | _ => none
section
variable {C : CF} {Fam : Wd G → Prop} {a e : Expr} {fa f : M G S} {pos p p2 : Pos}
theorem d_strI (hm : C.mg "str" = none) (ha : DE C Fam a fa) (hg : ∀ j, Gl (C.X j) "str" := by intro _; rfl) (he : ∀ j, starEach [a] (C.X j).env = (false, eval a (C.X j).env) :: starEach [] (C.X j).env := by intro _; rfl) : DE C Fam (.Call (.Name "str" p) [a] [] pos) (mUn opStrI fa) :=
  d_ct (fun j => call_str_int) (fun _ _ => by
    intro P₀ H₀ P O σ st τ ts H g x dx z Q R rx h q
    cases dx with
    | int i =>
      simp only [opStrI] at h
      split at h
      · rename_i hc; cases h; rw [rd1_int] at rx; exact ⟨i, by rw [rx], hc, q _ _ (R.ofSh (by simp))⟩
      · cases h
    | _ => cases h) (by decide +kernel) hm ha hg (he := he)
theorem d_intS (hm : C.mg "int" = none) (ha : DE C Fam a fa) (hg : ∀ j, Gl (C.X j) "int" := by intro _; rfl) (he : ∀ j, starEach [a] (C.X j).env = (false, eval a (C.X j).env) :: starEach [] (C.X j).env := by intro _; rfl) : DE C Fam (.Call (.Name "int" p) [a] [] pos) (mUn opIntS fa) :=
  d_ct (fun j => call_int_str) (fun _ _ => by
    intro P₀ H₀ P O σ st τ ts H g x dx z Q R rx h q
    cases dx with
    | str y =>
      simp only [opIntS] at h
      split at h
      · rename_i hc
        obtain ⟨n, e, rfl⟩ := Option.map_eq_some_iff.mp h
        rw [rd1_str] at rx
        exact ⟨y, n, by rw [rx], e, hc, q _ _ (R.ofSh (by simp))⟩
      · cases h
    | _ => cases h) (by decide +kernel) hm ha hg (he := he)
/-! ### f-strings -/
def opFmt : D → Option S
  | .str y => if y.length ≤ sizeLine then some (.sh (.str y)) else none
  | .int i => if i.natAbs.log2 < 1920 then some (.sh (.str (toString i))) else none
  | _ => none
theorem d_fmt (he : DE C Fam e f) : DE C Fam (.FormattedValue e (-1) none pos) (mUn opFmt f) := by
  obtain ⟨ta, pa, ea⟩ := he.ex
  refine ⟨_, fun j => pe_fmt (pa j), fun W hW P₀ H₀ σ st τ ts H g z st' g' Q R h q => ?_⟩
  obtain ⟨x, st1, g1, e1, h⟩ := bnd_eq h
  obtain ⟨d, e2, h⟩ := Option.bind_eq_some_iff.mp h
  obtain ⟨z', e3, h⟩ := Option.map_eq_some_iff.mp h
  simp only [Prod.mk.injEq] at h; obtain ⟨rfl, rfl, rfl⟩ := h
  refine ea W hW _ _ _ _ _ _ _ _ _ _ _ _ R e1 fun v H1 R1 => ?_
  obtain ⟨P, O, R1⟩ := R1
  have rv := R1.peekV e2
  cases d with
  | str y =>
    simp only [opFmt] at e3
    split at e3
    · rename_i hc; cases e3; rw [rd1_str] at rv; exact .inl ⟨y, rv, hc, q _ _ (R1.pop.ofSh (by simp))⟩
    · cases e3
  | int i =>
    simp only [opFmt] at e3
    split at e3
    · rename_i hc; cases e3; rw [rd1_int] at rv; exact .inr ⟨i, rv, hc, q _ _ (R1.pop.ofSh (by simp))⟩
    · cases e3
  | _ => cases e3
/-- texts one behind the other -/
def mJs : List (M G S) → Str → M G S
  | [], acc => fun st g => some (.sh (.str acc), st, g)
  | f :: fs, acc => fun st g => bnd (f st g) fun x st g => match x with
    | .sh (.str y) => if (acc ++ y).length ≤ sizeLine then mJs fs (acc ++ y) st g else none
    | _ => none
structure DJ (C : CF) (Fam : Wd G → Prop) (es : List Expr) (fs : List (M G S)) : Prop where
  ex : ∃ tt, (∀ j, PJ (C.X j) es tt) ∧ ∀ W, Fam W → ∀ (acc : Str) (P₀ H₀ : Hp) (σ : L2.St) (st : Sl) (τ : List V) (ts : List S) (H : Hp) (g : G) (r : S) (st' : Sl) (g' : G) (Q : Str → Hp → Prop),
    Rel C.K W P₀ H₀ σ st τ ts H g → mJs fs acc st g = some (r, st', g') → (∀ y H', r = .sh (.str y) → Rel C.K W P₀ H₀ σ st' τ ts H' g' → Q y H') → tJs tt acc σ H Q
theorem j_nil : DJ C Fam [] [] := ⟨[], fun _ => .nil, fun W hW acc P₀ H₀ σ st τ ts H g r st' g' Q R h q => by
  simp only [mJs, Option.some.injEq, Prod.mk.injEq] at h
  obtain ⟨rfl, rfl, rfl⟩ := h
  exact q acc H rfl R⟩
theorem j_cons {es : List Expr} {fs : List (M G S)} (he : DE C Fam e f) (hr : DJ C Fam es fs) : DJ C Fam (e :: es) (f :: fs) := by
  obtain ⟨ta, pa, ea⟩ := he.ex
  obtain ⟨tb, pb, eb⟩ := hr.ex
  refine ⟨ta :: tb, fun j => .cons (pa j) (pb j), fun W hW acc P₀ H₀ σ st τ ts H g r st' g' Q R h q => ?_⟩
  unfold mJs at h
  obtain ⟨x, st1, g1, e1, h⟩ := bnd_eq h
  refine ea W hW _ _ _ _ _ _ _ _ _ _ _ _ R e1 fun v H1 R1 => ?_
  split at h
  · rename_i y
    split at h
    · rename_i hc
      obtain ⟨P, O, R1⟩ := R1
      have rv : Rep C.K W P (.str y) v := R1.temps.1
      simp only [Rep] at rv
      exact ⟨y, rv, hc, eb W hW _ _ _ _ _ _ _ _ _ _ _ _ _ ⟨P, O, R1.pop⟩ h q⟩
    · cases h
  · cases h
theorem mJs_sh : ∀ (fs : List (M G S)) (acc : Str) (st : Sl) (g : G) (r : S) (st' : Sl) (g' : G), mJs fs acc st g = some (r, st', g') → ∃ y, r = .sh (.str y)
  | [], acc, st, g, r, st', g', h => by
    simp only [mJs, Option.some.injEq, Prod.mk.injEq] at h
    exact ⟨acc, h.1.symm⟩
  | f :: fs, acc, st, g, r, st', g', h => by
    unfold mJs at h
    obtain ⟨x, st1, g1, e1, h⟩ := bnd_eq h
    split at h
    · split at h
      · exact mJs_sh fs _ _ _ _ _ _ h
      · cases h
    · cases h
theorem d_joined {v1 v2 : Expr} {rest : List Expr} {fs : List (M G S)} (h : DJ C Fam (v1 :: v2 :: rest) fs) : DE C Fam (.JoinedStr (v1 :: v2 :: rest) pos) (mJs fs Str.empty) := by
  obtain ⟨tt, pt, et⟩ := h.ex
  refine ⟨_, fun j => pe_joined (pt j), fun W hW P₀ H₀ σ st τ ts H g z st' g' Q R h q => ?_⟩
  obtain ⟨y, rfl⟩ := mJs_sh _ _ _ _ _ _ _ h
  refine et W hW _ _ _ _ _ _ _ _ _ _ _ _ _ R h fun y' H' e R' => ?_
  cases e
  obtain ⟨P, O, R'⟩ := R'
  exact q _ _ (R'.ofSh (by simp))
/-! ### x += n -/
def opAddI : D → D → Option S
  | .int a, .int b => some (.sh (.int (a + b)))
  | _, _ => none
theorem d_aug (i : Nat) {x : Str} {pos' : Pos} (he : DE C Fam e f) (hi : C.N[i]? = some x := by rfl) (hx : ∀ j, Loc (C.X j).env.scope x := by intro _; first | exact Or.inl rfl | exact Or.inr rfl)
    (hf : ∀ j, (C.X j).fn x = true ∨ (C.X j).env.scope.names.lookup x = some .local := by intro _; first | exact .inl rfl | exact .inr rfl) : DS C Fam (.AugAssign (.Name x pos') .Add e pos) (mSet i (mOp opAddI (mVar i) f)) := by
  obtain ⟨ta, pa, ea⟩ := he.ex
  refine ⟨_, fun j => ps_aug (ti := rI0 fun i j => .int (i + j)) (C.nd' j) (by rw [C.hN j]; exact hi) (hx j) (pa j) (fun pins s σ H x y v u Q I r1 r2 h => iop_add pins s σ H x y v u Q I r1 r2 h) (hf j), fun W hW => ?_⟩
  intro P₀ H₀ σ st τ ts H g fl st' g' E n R h q
  obtain ⟨z, st3, g3, e3, h⟩ := bnd_eq h
  obtain ⟨y, st1, g1, e1, e3⟩ := bnd_eq e3
  obtain ⟨w, st2, g2, e2, e3⟩ := bnd_eq e3
  obtain ⟨dx, p1, e3⟩ := Option.bind_eq_some_iff.mp e3
  obtain ⟨dy, p2, e3⟩ := Option.bind_eq_some_iff.mp e3
  obtain ⟨z', ho, e3⟩ := Option.map_eq_some_iff.mp e3
  simp only [Prod.mk.injEq] at e3; obtain ⟨rfl, rfl, rfl⟩ := e3
  refine ev_var i _ _ _ _ _ _ _ _ _ _ _ (fun v H' => ta σ H' fun u H1 => rI0 (fun i j => .int (i + j)) v u H1 fun z H2 => E.nx (σ.set i (some z)) H2) R e1 fun v H1 R1 => ?_
  refine ea W hW _ _ _ _ _ _ _ _ _ _ _ _ R1 e2 fun u H2 R2 => ?_
  obtain ⟨P, O, R2⟩ := R2
  have r2 := R2.peekV p2
  have r1 := R2.pop.peekV p1
  cases dx with
  | int a =>
    cases dy with
    | int b =>
      cases ho
      rw [rd1_int] at r1 r2
      refine ⟨a, b, r1, r2, ?_⟩
      have R3 := R2.pop.pop.push (d := .int (a + b)) (v := .int (a + b)) (by simp)
      split at h
      · rename_i hil
        rw [R3.len] at hil
        simp only [Option.some.injEq, Prod.mk.injEq] at h; obtain ⟨rfl, rfl, rfl⟩ := h
        obtain ⟨O', R4⟩ := R3.store (fun j z => nomatch z) (fun z => nomatch z) n hil
        exact q _ _ ⟨P, O', R4⟩
      · cases h
    | _ => cases ho
  | _ => cases ho
end
end DL
namespace DL
open PySem PySem.Spec PyProof.Rows L2
/-! ### dicts with nested keys are gone through -/
end DL
namespace L2
open PySem PySem.Spec PyProof.Rows DL
end L2
namespace DL
open PySem PySem.Spec PyProof.Rows L2
end DL
namespace DL
open PySem PySem.Spec PyProof.Rows L2
variable {G : Type}
/-! ### a dict at d may be locked or not: all reads stay -/
structure AlikeN (w : World) (d : Addr) (ys : List (NestedKey × Addr × Value)) (P P' : Hp) : Prop where
  off : ∀ a, a ≠ d → P' a = P a
  old : ∃ o, P d = some o ∧ IsDN w d o ys
  new : ∃ o, P' d = some o ∧ IsDN w d o ys
section
variable {K : PySem.W.Frag} {W : Wd G} {d : Addr} {ys : List (NestedKey × Addr × Value)} {w : World} {P P' : Hp}
theorem AlikeN.lst {a : Addr} {xs : List V} (h : AlikeN w d ys P P') (e : P a = some (.lst xs)) : P' a = some (.lst xs) := by
  by_cases z : a = d
  · subst z
    obtain ⟨o, e2, i⟩ := h.old
    rw [e] at e2; cases e2
    rcases i with i | ⟨_, i⟩ <;> cases i
  · rw [h.off a z]; exact e
theorem AlikeN.tup {a : Addr} {xs : List V} (h : AlikeN w d ys P P') (e : DY.TupP K P a xs) : DY.TupP K P' a xs := by
  rcases e with ⟨o, e, hd⟩ | e
  · refine .inl ⟨o, ?_, hd⟩
    by_cases z : a = d
    · subst z
      obtain ⟨o', e2, i⟩ := h.old
      rw [e] at e2; cases e2
      rcases i with i | ⟨_, i⟩ <;> cases i
    · rw [h.off a z]; exact e
  · exact .inr e
theorem nd_eq {w w' : World} {d : Addr} {xs ys : List (NestedKey × Addr × Value)} {o o2 : HO} (h1 : IsDN w d o ys) (h2 : IsDN w d o2 ys) (i : IsDN w' d o xs) : IsDN w' d o2 xs := by
  have e : nDictO w' d xs = nDictO w d ys := by
    rcases i with rfl | ⟨x, rfl⟩
    · rcases h1 with h1 | ⟨y, h1⟩
      · exact h1
      · cases h1
    · rcases h1 with h1 | ⟨y, h1⟩
      · cases h1
      · simp only [HO.frz.injEq] at h1; exact h1.2
  unfold IsDN at h2 ⊢
  rw [e]; exact h2
theorem AlikeN.dct {a : Addr} {o : HO} {kk : List (D × V)} (h : AlikeN w d ys P P') (e : P a = some o) (i : DObj o kk) : ∃ o', P' a = some o' ∧ DObj o' kk := by
  by_cases z : a = d
  · subst z
    obtain ⟨o1, e1, i1⟩ := h.old
    rw [e] at e1; cases e1
    obtain ⟨kvs, hk, rfl⟩ := i
    rcases i1 with rfl | ⟨_, rfl⟩ <;> rcases hk with hk | ⟨_, hk⟩ <;> cases hk
  · exact ⟨o, by rw [h.off a z]; exact e, i⟩
theorem AlikeN.dcn {w' : World} {a : Addr} {o : HO} {xs : List (NestedKey × Addr × Value)} (h : AlikeN w d ys P P') (e : P a = some o) (i : IsDN w' a o xs) : ∃ o', P' a = some o' ∧ IsDN w' a o' xs := by
  by_cases z : a = d
  · subst z
    obtain ⟨o1, e1, i1⟩ := h.old
    obtain ⟨o2, e2, i2⟩ := h.new
    rw [e] at e1; cases e1
    exact ⟨o2, e2, nd_eq i1 i2 i⟩
  · exact ⟨o, by rw [h.off a z]; exact e, i⟩
mutual
theorem AlikeN.rep (h : AlikeN w d ys P P') : ∀ (x : D) (v : V), Rep K W P x v → Rep K W P' x v
  | .non, v, r => r
  | .bl _, v, r => r
  | .int _, v, r => r
  | .str _, v, r => r
  | .tup xs, v, r => by
    simp only [Rep] at r ⊢
    obtain ⟨a, ys, e, t, z, r⟩ := r
    exact ⟨a, ys, e, h.tup t, z, AlikeN.reps h xs ys r⟩
  | .lst xs, v, r => by
    simp only [Rep] at r ⊢
    obtain ⟨a, ys, e, t, z, r⟩ := r
    exact ⟨a, ys, e, h.lst t, z, AlikeN.reps h xs ys r⟩
  | .dct kvs, v, r => by
    simp only [Rep] at r ⊢
    obtain ⟨a, o, kk, e, t, i, r⟩ := r
    obtain ⟨o', t', i'⟩ := h.dct t i
    exact ⟨a, o', kk, e, t', i', AlikeN.repk h kvs kk r⟩
  | .dcn kvs, v, r => by
    simp only [Rep] at r ⊢
    obtain ⟨a, o, xs, e, t, i, r⟩ := r
    obtain ⟨o', t', i'⟩ := h.dcn t i
    exact ⟨a, o', xs, e, t', i', AlikeN.repn h kvs xs r⟩
  | .obj _, v, r => r
theorem AlikeN.reps (h : AlikeN w d ys P P') : ∀ (xs : List D) (vs : List V), Reps K W P xs vs → Reps K W P' xs vs
  | [], vs, r => r
  | x :: xs, vs, r => by
    simp only [Reps] at r ⊢
    obtain ⟨v, r', e, h1, h2⟩ := r
    exact ⟨v, r', e, AlikeN.rep h x v h1, AlikeN.reps h xs r' h2⟩
theorem AlikeN.repk (h : AlikeN w d ys P P') : ∀ (xs : List (D × D)) (vs : List (D × V)), Repk K W P xs vs → Repk K W P' xs vs
  | [], vs, r => r
  | (k, x) :: xs, vs, r => by
    simp only [Repk] at r ⊢
    obtain ⟨v, r', e, h1, h2⟩ := r
    exact ⟨v, r', e, AlikeN.rep h x v h1, AlikeN.repk h xs r' h2⟩
theorem AlikeN.repn (h : AlikeN w d ys P P') : ∀ (ds : List (D × D)) (xs : List (NestedKey × Addr × Value)), Repn K W P ds xs → Repn K W P' ds xs
  | [], xs, r => r
  | (k, x) :: ds, xs, r => by
    simp only [Repn] at r ⊢
    obtain ⟨nk, b, u, v, r', e, h1, h2, h3, h4, h5, h6⟩ := r
    exact ⟨nk, b, u, v, r', e, h1, h2, AlikeN.rep h k _ h3, h4, AlikeN.rep h x v h5, AlikeN.repn h ds r' h6⟩
end
theorem AlikeN.own {a : Addr} {o : HO} {x : D} (h : AlikeN w d ys P P') (r : Own K W P a o x) : Own K W P' a o x := by
  cases x with
  | lst xs => obtain ⟨ys, e, z, r⟩ := r; exact ⟨ys, e, z, h.reps _ _ r⟩
  | dct kvs => obtain ⟨kk, i, r⟩ := r; exact ⟨kk, i, h.repk _ _ r⟩
  | dcn kvs => obtain ⟨xs, i, r⟩ := r; exact ⟨xs, i, h.repn _ _ r⟩
  | _ => exact r.elim
theorem AlikeN.sok {O : Addr → Option Tag} {H H' : Hp} {σ : L2.St} {t : Tag} {v : V} {s : S} (h : AlikeN w d ys P P') (hO : O d = none) (hH : ∀ a, a ≠ d → H' a = H a) (r : SOk K W P O H σ t v s) : SOk K W P' O H' σ t v s := by
  cases s with
  | sh x => exact h.rep _ _ r
  | ow x =>
    obtain ⟨a, o, e, eO, eH, q⟩ := r
    have hne : a ≠ d := fun z => by rw [z, hO] at eO; cases eO
    exact ⟨a, o, e, eO, by rw [hH a hne]; exact eH, h.own q⟩
  | «at» i => exact r
  | any => trivial
theorem AlikeN.tok {O : Addr → Option Tag} {H H' : Hp} {σ : L2.St} (h : AlikeN w d ys P P') (hO : O d = none) (hH : ∀ a, a ≠ d → H' a = H a) : ∀ {τ : List V} {ts : List S}, TOk K W P O H σ τ ts → TOk K W P' O H' σ τ ts
  | [], [], _ => trivial
  | v :: τ, s :: ts, r => ⟨h.sok hO hH r.1, AlikeN.tok h hO hH r.2⟩
  | [], _ :: _, r => r.elim
  | _ :: _, [], r => r.elim
end
end DL
namespace DL
open PySem PySem.Spec PyProof.Rows L2
/-! ### going through a dict with nested keys -/
end DL
namespace DX
open PySem PySem.Spec PyProof.Rows L2 DL
/-! ### k in d, d[k], d.get(k, x): d's keys are nested tuples -/
def NGet (w : World) (K : PySem.W.Frag) (H : Hp) (a : Addr) (y : V) (o : Option V) : Prop :=
  ∃ b xs k, y = .ref b ∧ NDt w H a xs ∧ (∀ x ∈ xs, NKy K H x.2.1 x.1) ∧ NKy K H b k ∧ RelO o ((atKey xs k).map (·.2))
section
variable {X : Cx} {pins : List (Addr × Obj)} {σ : L2.St} {H : Hp} {s : Shared} {a : Addr} {y d : V} {u r : Value} {o : Option V} {A : Around} {E : Value → Shared → Prop}
theorem NGet.typeIs (I : Inv X pins σ H s) (g : NGet X.w X.K H a y o) : s.TypeIs (.ref a) "dict" := by
  obtain ⟨b, xs, k, rfl, hd, hk, hb, l⟩ := g
  obtain ⟨h1, h2, dd⟩ := hd.of I hk
  exact dd.typeIs
end
end DX
namespace DL
open PySem PySem.Spec PyProof.Rows L2
end DL
namespace DL
open PySem PySem.Spec PyProof.Rows L2
variable {G : Type}
/-! ### behind a statement a slot's own thing is shared -/
def shrSlot (i : Nat) (st : Sl) : Sl := match st[i]? with
  | some (some (.ow d)) => st.set i (some (.sh d))
  | _ => st
theorem Rel.shrSlot {K : PySem.W.Frag} {W : Wd G} {P₀ H₀ H : Hp} {σ : L2.St} {st : Sl} {τ : List V} {ts : List S} {g : G} (i : Nat) (R : Rel K W P₀ H₀ σ st τ ts H g) : Rel K W P₀ H₀ σ (shrSlot i st) τ ts H g := by
  unfold DL.shrSlot
  split
  · rename_i d e
    obtain ⟨P, O, R⟩ := R
    obtain ⟨v, e1, _, _⟩ := R.slot e
    have R1 : RelB K W P₀ H₀ P O σ st (v :: τ) (.at i :: ts) H g := R.pushS e1
    obtain ⟨P', O', R2⟩ := R1.takeV (d := d) (st' := st.set i (some (.sh d))) (by show (match st[i]? with | some (some (.sh d)) => some (d, st) | some (some (.ow d)) => some (d, st.set i (some (.sh d))) | _ => none) = _; rw [e])
    exact ⟨P', O', R2.pop⟩
  · exact R
def mAfter (i : Nat) (f : M G Fl) : M G Fl := fun st g => bnd (f st g) fun fl st g => match fl with
  | .nx => some (.nx, shrSlot i st, g)
  | fl => some (fl, st, g)
theorem ev_after {K : PySem.W.Frag} {W : Wd G} {t : TS} {f : M G Fl} (i : Nat) (h : EvS K W t f) : EvS K W t (mAfter i f) := by
  intro P₀ H₀ σ st τ ts H g fl st' g' E n R e q
  obtain ⟨fl1, st1, g1, e1, e⟩ := bnd_eq e
  cases fl1 with
  | nx =>
    simp only [Option.some.injEq, Prod.mk.injEq] at e; obtain ⟨rfl, rfl, rfl⟩ := e
    exact h _ _ _ _ _ _ _ _ _ _ _ _ n R e1 fun σ' H' R' => q σ' H' (R'.shrSlot i)
  | bk => simp only [Option.some.injEq, Prod.mk.injEq] at e; obtain ⟨rfl, rfl, rfl⟩ := e; exact h _ _ _ _ _ _ _ _ _ _ _ _ n R e1 q
  | ct => simp only [Option.some.injEq, Prod.mk.injEq] at e; obtain ⟨rfl, rfl, rfl⟩ := e; exact h _ _ _ _ _ _ _ _ _ _ _ _ n R e1 q
  | rt d => simp only [Option.some.injEq, Prod.mk.injEq] at e; obtain ⟨rfl, rfl, rfl⟩ := e; exact h _ _ _ _ _ _ _ _ _ _ _ _ n R e1 q
theorem DS.after {C : CF} {Fam : Wd G → Prop} {s : Stmt} {f : M G Fl} (i : Nat) (h : DS C Fam s f) : DS C Fam s (mAfter i f) :=
  let ⟨t, p, e⟩ := h.ex
  ⟨t, p, fun W hW => ev_after i (e W hW)⟩
end DL
namespace DX
open PySem PySem.Spec PyProof.Rows L2
/-! ### set tables of 512 slots -/
def MX (m : Nat) : Prop := MaskOk m ∨ m = 511
/-- the round, once gone through -/
def orb : Nat → Nat → List Nat
  | 0, _ => []
  | n + 1, x => x :: orb n ((x * 5 + 1) % 512)
theorem orb_at : ∀ (n x k : Nat), k < n → (orb n x)[k]? = some (lcgI 511 x k)
  | 0, _, _, h => absurd h (Nat.not_lt_zero _)
  | n + 1, x, 0, _ => rfl
  | n + 1, x, k + 1, h => by
    show (orb n ((x * 5 + 1) % 512))[k]? = _
    rw [orb_at n _ k (by omega)]
    have : ∀ k, lcgI 511 ((x * 5 + 1) % 512) k = lcgI 511 x (k + 1) := fun k => by
      induction k with
      | zero => rfl
      | succ k ih => show (lcgI 511 _ k * 5 + 1) % 512 = (lcgI 511 x (k + 1) * 5 + 1) % 512; rw [ih]
    rw [this]
theorem orb_all : ((List.range 512).all fun j => (orb 512 0).contains j) = true := by decide +kernel
theorem orb_round : lcgN 511 512 = 0 := by decide +kernel
theorem lcgI_zero : ∀ k, lcgI 511 0 k = lcgN 511 k
  | 0 => rfl
  | k + 1 => by show (lcgI 511 0 k * 5 + 1) % 512 = (lcgN 511 k * 5 + 1) % 512; rw [lcgI_zero k]
theorem orb_has {j : Nat} (h : j < 512) : ∃ b, b < 512 ∧ lcgN 511 b = j := by
  have h1 := List.all_eq_true.mp orb_all j (List.mem_range.mpr h)
  rw [List.contains_iff_mem] at h1
  obtain ⟨b, hb, e⟩ := List.mem_iff_getElem.mp h1
  have hl : ∀ n x, (orb n x).length = n := fun n => by
    induction n with
    | zero => intro x; rfl
    | succ n ih => intro x; simp [orb, ih]
  rw [hl] at hb
  refine ⟨b, hb, ?_⟩
  have := orb_at 512 0 b hb
  rw [List.getElem?_eq_getElem (by rw [hl]; exact hb), lcgI_zero] at this
  rw [← Option.some.inj this, e]
theorem orb_turn : ∀ k, lcgN 511 (512 + k) = lcgN 511 k
  | 0 => orb_round
  | k + 1 => by
    show (lcgN 511 (512 + k) * 5 + 1) % 512 = (lcgN 511 k * 5 + 1) % 512
    rw [orb_turn k]
theorem lcgI_reach {i j : Nat} (hi : i ≤ 511) (hj : j ≤ 511) : ∃ k, k ≤ 511 ∧ lcgI 511 i k = j := by
  obtain ⟨a, ha, rfl⟩ := orb_has (Nat.lt_succ_of_le hi)
  obtain ⟨b, hb, rfl⟩ := orb_has (Nat.lt_succ_of_le hj)
  by_cases c : a ≤ b
  · exact ⟨b - a, by omega, by rw [lcgN_add, Nat.add_sub_cancel' c]⟩
  · exact ⟨512 + b - a, by omega, by rw [lcgN_add, show a + (512 + b - a) = 512 + b by omega, orb_turn]⟩
theorem runs_meet {m : Nat} (hm : MX m) (h : Int) {j : Nat} (hj : j ≤ m) : ∃ n, n ≤ m + 12 ∧ runI m (SetTable.bits h) n = j := by
  rcases hm with hm | rfl
  · exact run_meets hm h hj
  · obtain ⟨k, hk, e⟩ := lcgI_reach (runI_le 511 (SetTable.bits h) 12) hj
    exact ⟨12 + k, by omega, by rw [runI_tail (bits_lt h)]; exact e⟩
theorem ways_meet {m : Nat} (hm : MX m) (h : Int) {j : Nat} (hj : j ≤ m) : ∃ k, k < 10 * SetTable.turns m ∧ way m h k = j := by
  obtain ⟨n, hn, e⟩ := runs_meet hm h hj
  obtain ⟨k, hk, e2⟩ := run_nth m (SetTable.bits h) n
  exact ⟨k, by unfold SetTable.turns; omega, by unfold way; rw [e2]; exact e⟩
theorem way_in (m : Nat) (h : Int) (k : Nat) : way m h k ≤ m := by
  have hi : SetTable.bits h % (m + 1) ≤ m := Nat.le_of_lt_succ (Nat.mod_lt _ (Nat.succ_pos _))
  have r := runEnd_bd hi
  have q := nth_in (m := m) k (runAt m (SetTable.bits h % (m + 1)) (SetTable.bits h)) (by
    show SetTable.bits h % (m + 1) + (SetTable.runEnd m (SetTable.bits h % (m + 1)) - SetTable.bits h % (m + 1)) ≤ m
    omega)
  exact Nat.le_trans (Nat.le_add_right _ _) q
theorem mx_odd {m : Nat} (h : MX m) : m % 2 = 1 := by
  rcases h with (e | e | e) | e <;> subst e <;> rfl
/-- a table whose slots all are found again, of up to 512 slots -/
structure TabM (t : SetTable) (hs : List Int) : Prop where
  ris : Ris t.place.toList
  dm : t.dummies = #[]
  sz : t.place.size = hs.length
  mok : MX t.mask
  bd : ∀ x ∈ t.place.toList, x ≤ t.mask
  reach : ∀ (i : Nat) (h : Int) (j : Nat), hs[i]? = some h → t.place.toList[i]? = some j → ∃ k, way t.mask h k = j ∧ ∀ k', k' < k → way t.mask h k' ∈ t.place.toList
theorem TabM.first {t : SetTable} {hs : List Int} (T : TabM t hs) (hl : hs.length ≤ t.mask) (h : Int) : ∃ K, K < 10 * SetTable.turns t.mask ∧ way t.mask h K ∉ t.place.toList ∧ ∀ k, k < K → way t.mask h k ∈ t.place.toList := by
  obtain ⟨j, hj, hn⟩ := st_missing t.place.toList (t.mask + 1) (by have := T.sz; rw [Array.length_toList]; omega)
  obtain ⟨k, hk, e⟩ := ways_meet T.mok h (Nat.le_of_lt_succ hj)
  subst e
  obtain ⟨K, h1, h2, h3⟩ := st_least (p := fun k => way t.mask h k ∉ t.place.toList) k hn
  exact ⟨K, Nat.lt_of_le_of_lt h1 hk, h2, fun k' hk' => Classical.byContradiction (h3 k' hk')⟩
theorem TabM.before {t : SetTable} {hs : List Int} (T : TabM t hs) {h : Int} {K i j : Nat} (hK : way t.mask h K ∉ t.place.toList) (hi : hs[i]? = some h) (hj : t.place.toList[i]? = some j) : ∃ k, k < K ∧ way t.mask h k = j := by
  obtain ⟨k, e, hb⟩ := T.reach i h j hi hj
  refine ⟨k, Nat.lt_of_not_le fun c => ?_, e⟩
  rcases Nat.lt_or_eq_of_le c with c | c
  · exact hK (hb K c)
  · rw [c, e] at hK
    exact hK (List.mem_of_getElem? hj)
theorem TabM.put {t : SetTable} {hs : List Int} (T : TabM t hs) {h : Int} {K : Nat} (hK : way t.mask h K ∉ t.place.toList) (hb : ∀ k, k < K → way t.mask h k ∈ t.place.toList) :
    TabM (t.put (way t.mask h K)).1 (hs.take (SetTable.below t.place (way t.mask h K)) ++ h :: hs.drop (SetTable.below t.place (way t.mask h K))) ∧ SetTable.below t.place (way t.mask h K) ≤ hs.length ∧ (t.put (way t.mask h K)).1.fill = hs.length + 1 := by
  have hjm : way t.mask h K ≤ t.mask := way_in ..
  obtain ⟨j, hj⟩ : ∃ j, j = way t.mask h K := ⟨_, rfl⟩
  rw [← hj] at hK hjm ⊢
  obtain ⟨c1, _, _⟩ := below_cut T.ris j
  generalize hp : SetTable.below t.place j = p at c1 ⊢
  have hpl : p ≤ t.place.toList.length := by rw [Array.length_toList]; exact c1
  have hph : p ≤ hs.length := by rw [← T.sz]; exact c1
  have hpp : (t.put j).1.place.toList = t.place.toList.take p ++ j :: t.place.toList.drop p := by rw [← hp]; exact put_place t j
  have hsize : (t.put j).1.place.size = hs.length + 1 := by rw [← Array.length_toList, hpp, len_ins _ hpl, Array.length_toList, T.sz]
  have dm := put_dm T.dm j
  have there : ∀ {x : Nat}, x ∈ t.place.toList → x ∈ (t.put j).1.place.toList := fun hx => by rw [hpp]; exact mem_ins.2 (.inr hx)
  have old : ∀ (i : Nat) (h' : Int) (j' : Nat), hs[i]? = some h' → t.place.toList[i]? = some j' → ∃ k, way t.mask h' k = j' ∧ ∀ k', k' < k → way t.mask h' k' ∈ (t.put j).1.place.toList := fun i h' j' h1 h2 =>
    let ⟨k, e, z⟩ := T.reach i h' j' h1 h2; ⟨k, e, fun k' hk' => there (z k' hk')⟩
  refine ⟨⟨ris_insert T.ris fun e => hK (List.mem_of_getElem? (by rw [Array.getElem?_toList]; exact e)), dm, by rw [len_ins _ hph, hsize], T.mok, fun x hx => ?_, fun i h' j' h1 h2 => ?_⟩, hph, by
    show (t.put j).1.place.size + (t.put j).1.dummies.size = hs.length + 1
    rw [hsize, dm]; rfl⟩
  · rw [hpp] at hx
    exact (mem_ins.1 hx).elim (fun z => z ▸ hjm) (T.bd x)
  · rw [tins_get hs hph] at h1
    rw [hpp, tins_get _ hpl] at h2
    show ∃ k, way t.mask h' k = j' ∧ _
    split at h1
    · rename_i c; rw [if_pos c] at h2; exact old i h' j' h1 h2
    · rename_i c
      rw [if_neg c] at h2
      split at h1
      · rename_i d
        rw [if_pos d] at h2
        rw [← Option.some.inj h1, ← Option.some.inj h2]
        exact ⟨K, hj.symm, fun k' hk' => there (hb k' hk')⟩
      · rename_i d; rw [if_neg d] at h2; exact old (i - 1) h' j' h1 h2
/-! ### laid anew -/
theorem seat {m : Nat} (hm : MX m) {done : List Int} {owner : Array (Option Nat)} (W : Own m done owner) (hl : done.length ≤ m) (h : Int) :
    ∃ j, SetTable.layClean.free m owner (SetTable.turns m) (SetTable.bits h % (m + 1)) (SetTable.bits h) = some j ∧ Own m (done ++ [h]) (owner.setIfInBounds j (some done.length)) := by
  obtain ⟨ps, hps, hin⟩ := W.ps
  obtain ⟨j0, h0, hn0⟩ := st_missing ps (m + 1) (by omega)
  have free0 : oAt owner j0 = none := Classical.byContradiction fun z => hn0 (hin j0 (Nat.le_of_lt_succ h0) z)
  obtain ⟨n, hn, e⟩ := runs_meet hm h (Nat.le_of_lt_succ h0)
  have at0 : way m h (off m (SetTable.bits h % (m + 1)) (SetTable.bits h) n) = j0 := by
    unfold way
    rw [nth_off, itL_run]
    exact e
  obtain ⟨K, k1, k2, k3⟩ := st_least (p := fun k => oAt owner (way m h k) = none) _ (by show oAt owner (way m h _) = none; rw [at0]; exact free0)
  have found := free_spec m owner (SetTable.turns m) n (SetTable.bits h % (m + 1)) (SetTable.bits h) K (by unfold SetTable.turns; omega) k1 (fun k hk => Option.isNone_eq_false_iff.mpr (Option.isSome_iff_ne_none.mpr (k3 k hk))) (Option.isNone_iff_eq_none.mpr k2)
  have hjm : way m h K ≤ m := way_in m h K
  have self := oAt_set_self (some done.length) (owner := owner) (j := way m h K) (by rw [W.sz]; exact Nat.lt_succ_of_le hjm)
  refine ⟨way m h K, found, ?_⟩
  have keep : ∀ {i : Nat}, oAt owner i ≠ none → oAt (owner.setIfInBounds (way m h K) (some done.length)) i ≠ none := fun {i} hi => by
    by_cases c : i = way m h K
    · rw [c, self]; exact fun z => nomatch z
    · rwa [oAt_set_ne _ c]
  refine ⟨by rw [Array.size_setIfInBounds]; exact W.sz, fun j k hj e => ?_, fun k hk => ?_, ⟨way m h K :: ps, by simp [hps], fun j hj e => ?_⟩⟩
  · by_cases c : j = way m h K
    · rw [c, self] at e
      exact ⟨h, K, by rw [← Option.some.inj e]; simp, c.symm, fun k' hk' => keep (k3 k' hk')⟩
    · rw [oAt_set_ne _ c] at e
      obtain ⟨h', K', a1, a2, a3⟩ := W.at_ j k hj e
      exact ⟨h', K', by rw [List.getElem?_append_left (List.getElem?_eq_some_iff.mp a1).1]; exact a1, a2, fun k' hk' => keep (a3 k' hk')⟩
  · rw [List.length_append, List.length_singleton] at hk
    by_cases c : k < done.length
    · obtain ⟨j, hj, e⟩ := W.all k c
      exact ⟨j, hj, by rw [oAt_set_ne _ fun z => by rw [z, k2] at e; cases e]; exact e⟩
    · exact ⟨way m h K, hjm, by rw [self]; exact congrArg some (by omega)⟩
  · by_cases c : j = way m h K
    · exact c ▸ List.mem_cons_self
    · rw [oAt_set_ne _ c] at e
      exact List.mem_cons_of_mem _ (hin j hj e)
theorem seats {m : Nat} (hm : MX m) : ∀ (rest done : List Int) (owner : Array (Option Nat)), Own m done owner → done.length + rest.length ≤ m →
    ∃ owner', rest.foldl (stepF m) (some (owner, done.length)) = some (owner', (done ++ rest).length) ∧ Own m (done ++ rest) owner'
  | [], done, owner, W, _ => ⟨owner, by simp, by rwa [List.append_nil]⟩
  | h :: rest, done, owner, W, hl => by
    rw [List.length_cons] at hl
    obtain ⟨j, e, W'⟩ := seat hm W (by omega) h
    have hl' : (done ++ [h]).length = done.length + 1 := by simp
    obtain ⟨owner', f, W2⟩ := seats hm rest (done ++ [h]) _ W' (by omega)
    rw [List.append_assoc, List.singleton_append] at f W2
    rw [hl'] at f
    exact ⟨owner', by rw [List.foldl_cons, stepF_some e]; exact f, W2⟩
theorem laid {m : Nat} (hm : MX m) {hs : Array Int} (hn : hs.size ≤ m) : ∃ owner, SetTable.layClean m hs = some owner ∧ Own m hs.toList owner := by
  obtain ⟨owner, f, W⟩ := seats hm hs.toList [] _ (Own.init m) (by rw [Array.length_toList]; simpa using hn)
  rw [List.nil_append] at W
  refine ⟨owner, ?_, W⟩
  rw [layClean_eq, show (some (Array.replicate (m + 1) (none : Option Nat), 0)) = some (Array.replicate (m + 1) none, ([] : List Int).length) from rfl, f]
  rfl
end DX
namespace DXM
open PySem PySem.Spec PyProof.Rows L2 DX
/-- the things of a set as it keeps them -/
structure NM (w : World) (h : Heap) (S : Addr) (L : List (Value × NestedKey)) (es : Array (Int × Value)) (ep : Nat) (t : SetTable) : Prop where
  ob : ∃ o, h.get? S = some o ∧ o.ExactSet ∧ o.data = .set es ep t
  eq : es.toList = kept w L
  tab : TabM t (hsOf w L)
  nd : (L.map (·.2)).Nodup
  el : ∀ p ∈ L, NK h p.1 p.2
  led : w.params.followText "set-order" = true ∨ t.led = true
  room : L.length * 5 < t.mask * 3
  few : L.length < 306
section
variable {P : Program} {w : World} {A : Around} {E : Value → Shared → Prop} {s : Shared} {S : Addr} {L : List (Value × NestedKey)} {es : Array (Int × Value)} {ep : Nat} {t : SetTable} {x : Value} {k : NestedKey}
theorem fits_of {h : Heap} (e : es.toList = kept w L) (T : TabM t (hsOf w L)) (hm : L.length ≤ t.mask) : t.fits es.size = true := by
  have a := T.sz
  rw [hs_len] at a
  have b := size_of e
  simp only [SetTable.fits, SetTable.fill, T.dm, Bool.and_eq_true, beq_iff_eq, decide_eq_true_eq]
  constructor
  · omega
  · show t.place.size + 0 ≤ t.mask; omega
theorem NM.fits (R : NM w s.heap S L es ep t) : t.fits es.size = true := fits_of (h := s.heap) R.eq R.tab (by have := R.room; omega)
theorem NM.odd (R : NM w s.heap S L es ep t) : ¬ t.gaveWay = true := by
  simp only [SetTable.gaveWay, mx_odd R.tab.mok]
  decide
end
end DXM
namespace DL
open PySem PySem.Spec PyProof.Rows L2
variable {G : Type}
/-! sorted(set(xs)), xs tuples of which up to 304 are unlike -/
def okSM (ds : List D) : Bool := (ds.all fun d => match nkD d with | some (.tup ks) => decide ((NestedKey.tup ks).depth ≤ 8) | _ => false) && (ds.all fun a => ds.all fun b => PySem.W.alike a.py b.py) && decide ((ssD ds).length < 305)
structure SM (ds : List D) (ks : List NestedKey) : Prop where
  eq : ds.map nkD = ks.map some
  tup : ∀ k ∈ ks, DX.isTupK k = true ∧ k.depth ≤ 8
  al : ∀ k ∈ ks, ∀ k' ∈ ks, PySem.W.alike k.data k'.data = true
  few : (ssD ds).length < 305
theorem SM.back {ds : List D} {ks : List NestedKey} (h : SM ds ks) {d : D} (hd : d ∈ ds) : ∃ k ∈ ks, nkD d = some k := by
  have : nkD d ∈ ks.map some := by rw [← h.eq]; exact List.mem_map_of_mem hd
  obtain ⟨k, hk, e⟩ := List.mem_map.mp this
  exact ⟨k, hk, e.symm⟩
theorem SM.inj {ds : List D} {ks : List NestedKey} (h : SM ds ks) : InjT ds := fun a ha b hb h1 h2 => by
  obtain ⟨k, hk, ek⟩ := h.back ha
  obtain ⟨k', hk', ek'⟩ := h.back hb
  have e := ltD_toks h1 h2
  rw [nk_py a k ek, nk_py b k' ek'] at e
  obtain ⟨e2, _⟩ := toks_key k k' [] [] (h.al k hk k' hk') (by rw [List.append_nil, List.append_nil]; exact e)
  subst e2
  exact nk_inj a b k ek ek'
/-- what is laid: values with their data and their keys -/
theorem SM.zip {K : PySem.W.Frag} {W : Wd G} {P H : Hp} (s : Sub P H) : ∀ {ds : List D} {xs : List V}, Reps K W P ds xs → (∀ d ∈ ds, ∃ k, nkD d = some k ∧ DX.isTupK k = true ∧ k.depth ≤ 8) → ∃ zs : List (V × NestedKey × D), xs = zs.map (·.1) ∧ ds = zs.map (·.2.2) ∧ ∀ z ∈ zs, nkD z.2.2 = some z.2.1 ∧ Rep K W P z.2.2 z.1 ∧ Dp K H z.1 z.2.1.data ∧ DX.isTupK z.2.1 = true ∧ z.2.1.depth ≤ 8
  | [], xs, h, _ => by simp only [Reps] at h; subst h; exact ⟨[], rfl, rfl, fun z hz => by cases hz⟩
  | d :: ds, xs, h, hk => by
    simp only [Reps] at h
    obtain ⟨v, r, rfl, h1, h2⟩ := h
    obtain ⟨zs, e1, e2, e3⟩ := SM.zip s h2 fun d hd => hk d (List.mem_cons_of_mem _ hd)
    obtain ⟨k, ek, t1, t2⟩ := hk d List.mem_cons_self
    exact ⟨(v, k, d) :: zs, by rw [List.map_cons, ← e1], by rw [List.map_cons, ← e2], fun z hz => by
      rcases List.mem_cons.mp hz with rfl | hz
      · exact ⟨ek, h1, by rw [← nk_py d k ek]; exact Rep.dp s d v (nk_pl d k ek) h1, t1, t2⟩
      · exact e3 z hz⟩
theorem SM.keyed {ds : List D} {ks : List NestedKey} (h : SM ds ks) : ∀ d ∈ ds, ∃ k, nkD d = some k ∧ DX.isTupK k = true ∧ k.depth ≤ 8 := fun d hd => by
  obtain ⟨k, hk, e⟩ := h.back hd
  exact ⟨k, e, h.tup k hk⟩
end DL
namespace DL
open PySem PySem.Spec PyProof.Rows L2
/-! {k: v, ..}: a dict's display, keys ints and texts -/
end DL
namespace DL
open PySem PySem.Spec PyProof.Rows L2
/-! ### the next number -/
noncomputable def B__law_next : M Dk Fl := (mSeq (mWhile (mTest (mOpW rdD opNe (mOpW rdD opIxL (mVar 0) (mC (.int 0))) (mLst mNil))) (mSeq (mSet 5 (mOpW rdD opIxL (mOpW rdD opIxL (mVar 0) (mC (.int 0))) (mC (.int 0)))) (mSeq (mIf (mTest (mOp (opCmp .Gt) (mVar 5) (mC (.int 0)))) (mSeq (mPutW (mOpW rdD opIxL (mVar 0) (mC (.int 0))) (mC (.int 0)) (mOp opFdiv (mVar 5) (mVar 1))) (mRet (mOp opMod (mUn opInt (mVar 5)) (mVar 1)))) mNext) (mDrop (mPopW (mOpW rdD opIxL (mVar 0) (mC (.int 0)))))))) (mSeq (mPutW (mVar 0) (mC (.int 2)) (mOp opAdd (mOpW rdD opIxL (mVar 0) (mC (.int 2))) (mC (.int 1)))) (mSeq (mSet 2 (mOpW rdD opIxL (mVar 0) (mC (.int 2)))) (mSeq (mSet 3 (mOp opMod (mUn opInt (mOpW rdD opIxL (mOpW rdD opIxL (mVar 0) (mC (.int 1))) (mOp opMod (mUn opInt (mVar 2)) (mUnW rdD opLen (mOpW rdD opIxL (mVar 0) (mC (.int 1))))))) (mC (.int 2147483629)))) (mSeq (mSet 4 (mOp opMod (mUn opInt (mOp opAdd (mOp opAdd (mOp opMul (mVar 3) (mOp opAdd (mC (.int 50331)) (mOp opMul (mC (.int 68111)) (mVar 2)))) (mOp opMul (mOp opMul (mC (.int 41287)) (mVar 2)) (mVar 2))) (mC (.int 19)))) (mC (.int 2147483587)))) (mRet (mOp opMod (mOp opFdiv (mOp opMod (mUn opInt (mOp opMul (mVar 4) (mVar 4))) (mC (.int 2147483579))) (mC (.int 16))) (mVar 1))))))))
noncomputable def F__law_next : Fn Dk := mFn 2 6 B__law_next
/-- n draws more are let -/
structure Ok (n : Nat) (g : Dk) : Prop where
  ne : g.cells ≠ []
  lo : 0 ≤ g.turn
  hi : g.turn + n ≤ 2 ^ 64
  nl : g.loan = none
theorem Ok.mono {n m : Nat} {g : Dk} (h : Ok n g) (hm : m ≤ n) : Ok m g := ⟨h.ne, h.lo, by have := h.hi; omega, h.nl⟩
theorem log2_lt {i : Int} {k : Nat} (h0 : 0 ≤ i) (h : i < 2 ^ k) (hk : 0 < k) : i.natAbs.log2 < k := by
  by_cases e : i = 0
  · subst e; simpa using hk
  · refine (Nat.log2_lt (by omega)).mpr ?_
    have : (i.natAbs : Int) < 2 ^ k := by omega
    exact_mod_cast this
/-- what is drawn -/
def mixed (m : Int) (cells : List Int) (t : Int) : Int :=
  let a := ((atI cells (t % (cells.length : Int))).getD 0) % 2147483629
  let b := (a * (50331 + 68111 * t) + 41287 * t * t + 19) % 2147483587
  (b * b) % 2147483579 / 16 % m
def drawnB (ln : Option (List D)) (m : Int) (cells : List Int) (turn : Int) : List Int → Int × Dk
  | [] => (mixed m cells (turn + 1), ⟨[], cells, turn + 1, ln⟩)
  | x :: r => if 0 < x then (x % m, ⟨x / m :: r, cells, turn, ln⟩) else drawnB ln m cells turn r
theorem pls_ints : ∀ l : List Int, D.pls (l.map D.int) = true
  | [] => rfl
  | x :: l => by simp [D.pls, D.pl, pls_ints l]
theorem eqv_ints_nil : ∀ l : List Int, PyData.eqv (D.py (.lst (l.map D.int))) (D.py (.lst [])) = l.isEmpty
  | [] => by simp [D.py, D.pys, PyData.eqv, PyData.eqvAll]
  | x :: l => by simp [D.py, D.pys, PyData.eqv, PyData.eqvAll]
theorem ne_big (l : List Int) : opNe (.lst (l.map D.int)) (.lst []) = some (.sh (.bl (!l.isEmpty))) := by
  have h : okEq (.lst (l.map D.int)) (.lst []) = true := by
    simp only [okEq, D.pl, pls_ints, D.pls, Bool.and_true, Bool.true_and, decide_eq_true_eq]
    refine Nat.le_trans (Nat.min_le_right _ _) ?_
    simp [D.py, D.pys, PyData.depth, PyData.depthAll]
  unfold opNe
  rw [if_pos h]
  unfold eqD
  rw [eqv_ints_nil]
theorem atI_zero {α : Type} (x : α) (l : List α) : atI (x :: l) 0 = some x := by simp [atI, ixN]
theorem sz1 : (0 : Nat) ≤ sizeLine := Nat.zero_le _
abbrev nC : M Dk Bool := (mTest (mOpW rdD opNe (mOpW rdD opIxL (mVar 0) (mC (.int 0))) (mLst mNil)))
theorem nC_eq (m : Int) (x2 x3 x4 x5 : Option S) (g : Dk) : nC [some (.sh (.obj 0)), some (.sh (.int m)), x2, x3, x4, x5] g = some (!g.big.isEmpty, [some (.sh (.obj 0)), some (.sh (.int m)), x2, x3, x4, x5], g) := by
  simp only [nC, mTest, mOpW, mVar, mC, mLst, mNil, List.getElem?_cons_zero, bnd_some, peekW, rdD, Option.bind_some, opIxL, atI_zero, Option.map_some, List.length_nil, sz1, if_true, peek, ne_big]
abbrev nB : M Dk Fl := (mSeq (mSet 5 (mOpW rdD opIxL (mOpW rdD opIxL (mVar 0) (mC (.int 0))) (mC (.int 0)))) (mSeq (mIf (mTest (mOp (opCmp .Gt) (mVar 5) (mC (.int 0)))) (mSeq (mPutW (mOpW rdD opIxL (mVar 0) (mC (.int 0))) (mC (.int 0)) (mOp opFdiv (mVar 5) (mVar 1))) (mRet (mOp opMod (mUn opInt (mVar 5)) (mVar 1)))) mNext) (mDrop (mPopW (mOpW rdD opIxL (mVar 0) (mC (.int 0)))))))
theorem cmp_gt (a b : Int) : opCmp .Gt (.int a) (.int b) = some (.sh (.bl (decide (b < a)))) := by
  unfold opCmp
  rw [if_pos (okCmp_int a b)]
  simp only [cmpD, D.py, ltD_int]
theorem cmp_lt (a b : Int) : opCmp .Lt (.int a) (.int b) = some (.sh (.bl (decide (a < b)))) := by
  unfold opCmp
  rw [if_pos (okCmp_int a b)]
  simp only [cmpD, D.py, ltD_int]
theorem cmp_le (a b : Int) : opCmp .LtE (.int a) (.int b) = some (.sh (.bl (!decide (b < a)))) := by
  unfold opCmp
  rw [if_pos (okCmp_int a b)]
  simp only [cmpD, D.py, ltD_int]
theorem nB_eq (ln : Option (List D)) (m : Int) (hm : 0 < m) (hl : m.natAbs.log2 < 9000) (x2 x3 x4 x5 : Option S) (x : Int) (r cells : List Int) (turn : Int) : nB [some (.sh (.obj 0)), some (.sh (.int m)), x2, x3, x4, x5] ⟨x :: r, cells, turn, ln⟩ =
    if 0 < x then some (.rt (.int (x % m)), [some (.sh (.obj 0)), some (.sh (.int m)), x2, x3, x4, some (.sh (.int x))], ⟨x / m :: r, cells, turn, ln⟩) else some (.nx, [some (.sh (.obj 0)), some (.sh (.int m)), x2, x3, x4, some (.sh (.int x))], ⟨r, cells, turn, ln⟩) := by
  have hd : okDiv x m = true := by simp [okDiv, hm, hl]
  by_cases h : 0 < x
  · simp [nB, mSeq, mSet, mIf, mTest, mOp, mUn, mRet, mTake, mPutW, mOpW, mVar, mC, peekW, peek, take, rdD, opIxL, atI_zero, cmp_gt, wput, opI2, opInt, hd, hm, h]
  · simp [nB, mSeq, mSet, mIf, mTest, mOp, mUn, mRet, mTake, mDrop, mNext, mPopW, mOpW, mVar, mC, peekW, peek, take, rdD, opIxL, atI_zero, cmp_gt, h]
theorem loop_eq (ln : Option (List D)) (m : Int) (hm : 0 < m) (hl : m.natAbs.log2 < 9000) (x2 x3 x4 : Option S) (cells : List Int) (turn : Int) : ∀ (big : List Int) (x5 : Option S),
    (∃ st, mWhile nC nB [some (.sh (.obj 0)), some (.sh (.int m)), x2, x3, x4, x5] ⟨big, cells, turn, ln⟩ = some (.rt (.int (drawnB ln m cells turn big).1), st, (drawnB ln m cells turn big).2)) ∨
    ∃ y5, mWhile nC nB [some (.sh (.obj 0)), some (.sh (.int m)), x2, x3, x4, x5] ⟨big, cells, turn, ln⟩ = some (.nx, [some (.sh (.obj 0)), some (.sh (.int m)), x2, x3, x4, y5], ⟨[], cells, turn, ln⟩) ∧ drawnB ln m cells turn big = drawnB ln m cells turn []
  | [], x5 => by
    refine .inr ⟨x5, mWhile_of (n := 1) ?_, rfl⟩
    unfold whileM
    rw [nC_eq, bnd_some]
    rfl
  | x :: r, x5 => by
    by_cases h : 0 < x
    · left
      refine ⟨[some (.sh (.obj 0)), some (.sh (.int m)), x2, x3, x4, some (.sh (.int x))], mWhile_of (n := 1) ?_⟩
      · unfold whileM
        rw [nC_eq, bnd_some]
        simp only [List.isEmpty_cons, Bool.not_false, if_true]
        rw [nB_eq ln m hm hl, if_pos h, bnd_some]
        simp only [drawnB, if_pos h]
    · have ih := loop_eq ln m hm hl x2 x3 x4 cells turn r (some (.sh (.int x)))
      have step : ∀ res, mWhile nC nB [some (.sh (.obj 0)), some (.sh (.int m)), x2, x3, x4, some (.sh (.int x))] ⟨r, cells, turn, ln⟩ = some res → mWhile nC nB [some (.sh (.obj 0)), some (.sh (.int m)), x2, x3, x4, x5] ⟨x :: r, cells, turn, ln⟩ = some res := fun res e => by
        obtain ⟨n, e⟩ := mWhile_eq e
        refine mWhile_of (n := n + 1) ?_
        unfold whileM
        rw [nC_eq, bnd_some]
        simp only [List.isEmpty_cons, Bool.not_false, if_true]
        rw [nB_eq ln m hm hl, if_neg h, bnd_some]
        exact e
      have ed : drawnB ln m cells turn (x :: r) = drawnB ln m cells turn r := by simp only [drawnB, if_neg h]
      rw [ed]
      rcases ih with ⟨st, e⟩ | ⟨y5, e, e2⟩
      · exact .inl ⟨st, step _ e⟩
      · exact .inr ⟨y5, step _ e, e2⟩
theorem okMul_of {a b : Int} {p q : Nat} (ha : 0 ≤ a) (hb : 0 ≤ b) (h1 : a < 2 ^ p) (h2 : b < 2 ^ q) (hp : 0 < p) (hq : 0 < q) (hs : p + q ≤ 1000000) : okMul a b = true := by
  have := log2_lt ha h1 hp
  have := log2_lt hb h2 hq
  simp only [okMul, decide_eq_true_eq]; omega
abbrev nR : M Dk Fl := (mSeq (mPutW (mVar 0) (mC (.int 2)) (mOp opAdd (mOpW rdD opIxL (mVar 0) (mC (.int 2))) (mC (.int 1)))) (mSeq (mSet 2 (mOpW rdD opIxL (mVar 0) (mC (.int 2)))) (mSeq (mSet 3 (mOp opMod (mUn opInt (mOpW rdD opIxL (mOpW rdD opIxL (mVar 0) (mC (.int 1))) (mOp opMod (mUn opInt (mVar 2)) (mUnW rdD opLen (mOpW rdD opIxL (mVar 0) (mC (.int 1))))))) (mC (.int 2147483629)))) (mSeq (mSet 4 (mOp opMod (mUn opInt (mOp opAdd (mOp opAdd (mOp opMul (mVar 3) (mOp opAdd (mC (.int 50331)) (mOp opMul (mC (.int 68111)) (mVar 2)))) (mOp opMul (mOp opMul (mC (.int 41287)) (mVar 2)) (mVar 2))) (mC (.int 19)))) (mC (.int 2147483587)))) (mRet (mOp opMod (mOp opFdiv (mOp opMod (mUn opInt (mOp opMul (mVar 4) (mVar 4))) (mC (.int 2147483579))) (mC (.int 16))) (mVar 1)))))))
theorem atI_map {l : List Int} {i x : Int} (h : atI l i = some x) : atI (l.map D.int) i = some (.int x) := by
  unfold atI at h ⊢
  rw [List.length_map]
  cases e : ixN l.length i with
  | none => rw [e] at h; cases h
  | some j =>
    rw [e] at h
    show (l.map D.int)[j]? = _
    rw [List.getElem?_map]
    have h' : l[j]? = some x := h
    rw [h']; rfl
theorem atI_some {α : Type} {l : List α} {i : Int} (h0 : 0 ≤ i) (h1 : i < l.length) : ∃ x, atI l i = some x ∧ l[i.toNat]? = some x := by
  have hlt : i.toNat < l.length := by omega
  have e : ixN l.length i = some i.toNat := by
    unfold ixN
    rw [if_pos h0, if_pos h1]
  refine ⟨l[i.toNat], ?_, List.getElem?_eq_getElem hlt⟩
  unfold atI
  rw [e]
  exact List.getElem?_eq_getElem hlt
theorem nR_eq (ln : Option (List D)) (m : Int) (hm : 0 < m) (x2 x3 x4 x5 : Option S) (big cells : List Int) (turn : Int) (hc : cells ≠ []) (h0 : 0 ≤ turn) (h1 : turn + 1 ≤ 2 ^ 64) :
    ∃ st, nR [some (.sh (.obj 0)), some (.sh (.int m)), x2, x3, x4, x5] ⟨big, cells, turn, ln⟩ = some (.rt (.int (mixed m cells (turn + 1))), st, ⟨big, cells, turn + 1, ln⟩) := by
  have hlen : 0 < (cells.length : Int) := by
    have : cells.length ≠ 0 := fun e => hc (List.length_eq_zero_iff.mp e)
    omega
  obtain ⟨x, ex, _⟩ := atI_some (l := cells) (i := (turn + 1) % (cells.length : Int)) (Int.emod_nonneg _ (by omega)) (Int.emod_lt_of_pos _ hlen)
  have ex2 := atI_map ex
  have ha0 : 0 ≤ x % 2147483629 := Int.emod_nonneg _ (by decide)
  have ha1 : x % 2147483629 < 2 ^ 31 := by have := Int.emod_lt_of_pos x (b := 2147483629) (by decide); omega
  have k1 : okMul 68111 (turn + 1) = true := okMul_of (p := 17) (q := 65) (by decide) (by omega) (by decide) (by omega) (by decide) (by decide) (by decide)
  have k2 : okMul (x % 2147483629) (50331 + 68111 * (turn + 1)) = true := okMul_of (p := 31) (q := 83) ha0 (by omega) ha1 (by omega) (by decide) (by decide) (by decide)
  have k3 : okMul 41287 (turn + 1) = true := okMul_of (p := 16) (q := 65) (by decide) (by omega) (by decide) (by omega) (by decide) (by decide) (by decide)
  have k4 : okMul (41287 * (turn + 1)) (turn + 1) = true := okMul_of (p := 82) (q := 65) (by omega) (by omega) (by omega) (by omega) (by decide) (by decide) (by decide)
  have hb0 : 0 ≤ (x % 2147483629 * (50331 + 68111 * (turn + 1)) + 41287 * (turn + 1) * (turn + 1) + 19) % 2147483587 := Int.emod_nonneg _ (by decide)
  have hb1 : (x % 2147483629 * (50331 + 68111 * (turn + 1)) + 41287 * (turn + 1) * (turn + 1) + 19) % 2147483587 < 2 ^ 31 := by
    have := Int.emod_lt_of_pos (x % 2147483629 * (50331 + 68111 * (turn + 1)) + 41287 * (turn + 1) * (turn + 1) + 19) (b := 2147483587) (by decide); omega
  have k5 := okMul_of (p := 31) (q := 31) hb0 hb0 hb1 hb1 (by decide) (by decide) (by decide)
  have a2 : ∀ (a b c : D), atI [a, b, c] 2 = some c := fun a b c => by simp [atI, ixN]
  have a1 : ∀ (a b c : D), atI [a, b, c] 1 = some b := fun a b c => by simp [atI, ixN]
  have kd : ∀ i, okDiv i 16 = true := fun i => by simp [okDiv]; decide
  have lt : ¬ ((cells.length : Int) ≤ 0) := by omega
  refine ⟨[some (.sh (.obj 0)), some (.sh (.int m)), some (.sh (.int (turn + 1))), some (.sh (.int (x % 2147483629))), some (.sh (.int ((x % 2147483629 * (50331 + 68111 * (turn + 1)) + 41287 * (turn + 1) * (turn + 1) + 19) % 2147483587))), x5], ?_⟩
  · simp only [nR, mSeq, mSet, mIf, mTest, mOp, mUn, mUnW, mRet, mTake, mPutW, mOpW, mVar, mC, peekW, peek, take, rdD, opIxL, opLen, a2, a1, wput, opAdd, opMul, opI2, opInt, bnd_some, Option.bind_some, Option.map_some, List.getElem?_cons_zero, List.getElem?_cons_succ, List.set_cons_zero, List.set_cons_succ, List.length_cons, List.length_nil, hm, List.length_map, hlen, decide_true, if_true, ex2, k1, k2, k3, k4, k5, kd, mixed, ex, Option.getD_some,
      show (5 : Nat) < 0 + 1 + 1 + 1 + 1 + 1 + 1 by decide, show (2 : Nat) < 0 + 1 + 1 + 1 + 1 + 1 + 1 by decide, show (3 : Nat) < 0 + 1 + 1 + 1 + 1 + 1 + 1 by decide, show (4 : Nat) < 0 + 1 + 1 + 1 + 1 + 1 + 1 by decide, show (0 : Int) < 2147483629 by decide, show (0 : Int) < 2147483587 by decide, show (0 : Int) < 2147483579 by decide]
theorem mFn_rt {G : Type} {n m : Nat} {b : M G Fl} {ds : List D} {g g' : G} {d : D} {st : Sl} (hl : ds.length = n) (h : b (ds.map (fun d => some (.sh d)) ++ List.replicate (m - n) none) g = some (.rt d, st, g')) : mFn n m b ds g = some (d, g') := by
  unfold mFn
  rw [if_pos hl, h]
/-- the next number, below m -/
theorem next_eq (m : Int) (hm : 0 < m) (hl : m.natAbs.log2 < 9000) (g : Dk) (hc : g.cells ≠ []) (h0 : 0 ≤ g.turn) (h1 : g.turn + 1 ≤ 2 ^ 64) : F__law_next [.obj 0, .int m] g = some (.int (drawnB g.loan m g.cells g.turn g.big).1, (drawnB g.loan m g.cells g.turn g.big).2) := by
  obtain ⟨big, cells, turn, ln⟩ := g
  show mFn 2 6 (mSeq (mWhile nC nB) nR) _ _ = _
  rcases loop_eq ln m hm hl none none none cells turn big none with ⟨st, e⟩ | ⟨y5, e, e2⟩
  · refine mFn_rt (st := st) rfl ?_
    show mSeq (mWhile nC nB) nR [some (.sh (.obj 0)), some (.sh (.int m)), none, none, none, none] _ = _
    unfold mSeq
    rw [e]; rfl
  · obtain ⟨st, e3⟩ := nR_eq ln m hm none none none y5 [] cells turn hc h0 h1
    refine mFn_rt (st := st) rfl ?_
    show mSeq (mWhile nC nB) nR [some (.sh (.obj 0)), some (.sh (.int m)), none, none, none, none] _ = _
    rw [mSeq, e, e2]
    exact e3
theorem drawnB_range (ln : Option (List D)) {m : Int} (hm : 0 < m) (cells : List Int) (turn : Int) : ∀ big, 0 ≤ (drawnB ln m cells turn big).1 ∧ (drawnB ln m cells turn big).1 < m ∧ (drawnB ln m cells turn big).2.cells = cells ∧ turn ≤ (drawnB ln m cells turn big).2.turn ∧ (drawnB ln m cells turn big).2.turn ≤ turn + 1 ∧ (drawnB ln m cells turn big).2.loan = ln
  | [] => ⟨Int.emod_nonneg _ (by omega), Int.emod_lt_of_pos _ hm, rfl, by simp only [drawnB]; omega, by simp only [drawnB]; omega, rfl⟩
  | x :: r => by
    simp only [drawnB]
    split
    · exact ⟨Int.emod_nonneg _ (by omega), Int.emod_lt_of_pos _ hm, rfl, by simp only; omega, by simp only; omega, rfl⟩
    · exact drawnB_range ln hm cells turn r
theorem next_ok {n : Nat} {m : Int} {g : Dk} (h : Ok (n + 1) g) (hm : 0 < m) (hl : m ≤ 2 ^ 63) : ∃ r g', F__law_next [.obj 0, .int m] g = some (.int r, g') ∧ 0 ≤ r ∧ r < m ∧ Ok n g' := by
  have hlog : m.natAbs.log2 < 9000 := Nat.lt_of_lt_of_le (log2_lt (k := 64) (by omega) (by omega) (by decide)) (by decide)
  obtain ⟨h1, h2, h3, h4, h5, h6⟩ := drawnB_range g.loan hm g.cells g.turn g.big
  refine ⟨_, _, next_eq m hm hlog g h.ne h.lo (by have := h.hi; omega), h1, h2, ⟨by rw [h3]; exact h.ne, by have := h.lo; omega, by have := h.hi; omega, by rw [h6]; exact h.nl⟩⟩
theorem deck0_ok (ns : List Int) : Ok (2 ^ 63) (deck0 ns) := ⟨by simp [deck0], by simp [deck0], by simp [deck0], rfl⟩
end DL
namespace DL
open PySem PySem.Spec PyProof.Rows L2
noncomputable def B__law_one : M Dk Fl := (mRet (mOp opIx (mVar 1) (mCall F__law_next (mCons (mVar 0) (mCons (mUn opLen (mVar 1)) mNil)))))
noncomputable def F__law_one : Fn Dk := mFn 2 2 B__law_one
noncomputable def B__law_dials : M Dk Fl := (mSeq (mSet 1 (mLst (mCons (mC (.str "a")) (mCons (mC (.str "b")) (mCons (mC (.str "buyer")) (mCons (mC (.str "c")) (mCons (mC (.str "day")) (mCons (mC (.str "item")) (mCons (mC (.str "shop")) (mCons (mC (.str "thin")) mNil)))))))))) (mSeq (mSet 2 (mSl (mUn opSS (mLc (srcRange1 (mOp opAdd (mC (.int 1)) (mCall F__law_next (mCons (mVar 0) (mCons (mC (.int 6)) mNil))))) (.nm 5) [5] mYes (mCall F__law_one (mCons (mVar 0) (mCons (mVar 1) mNil))))) mNoP (mPart (mC (.int 5))))) (mSeq (mSet 3 (mOp opIx (mLst (mCons (mLst (mCons (mC (.str "man")) (mCons (mC (.str "thing")) (mCons (mC (.str "man")) mNil)))) (mCons (mLst (mCons (mC (.str "man")) mNil)) (mCons (mLst (mCons (mC (.str "man")) (mCons (mC (.str "thing")) (mCons (mC (.str "place")) (mCons (mC (.str "day")) mNil))))) mNil)))) (mCall F__law_next (mCons (mVar 0) (mCons (mC (.int 3)) mNil))))) (mRet (mUn opTuple (mLc (srcSeq (mVar 2)) (.nm 4) [4] mYes (mTup (mCons (mVar 4) (mCons (mCall F__law_one (mCons (mVar 0) (mCons (mVar 3) mNil))) mNil)))))))))
noncomputable def F__law_dials : Fn Dk := mFn 1 6 B__law_dials
noncomputable def B__law_scheme : M Dk Fl := (mSeq (mPar 3 4 (mCall F__law_dials (mCons (mVar 0) mNil)) mDNew) (mSeq (mSet 1 (mLc (srcSeq (mVar 3)) (.tp [(.nm 6), (.nm 7)]) [6, 7] mYes (mVar 6))) (mSeq (mFor (srcRange1 (mOp opAdd (mC (.int 1)) (mCall F__law_next (mCons (mVar 0) (mCons (mC (.int 4)) mNil))))) (.nm 2) (mSeq (mSet 5 (mSl (mUn opSS (mLc (srcRange1 (mOp opAdd (mC (.int 1)) (mCall F__law_next (mCons (mVar 0) (mCons (mC (.int 4)) mNil))))) (.nm 9) [9] mYes (mCall F__law_one (mCons (mVar 0) (mCons (mVar 1) mNil))))) mNoP (mPart (mC (.int 3))))) (mDPut 4 (mCall F__law_one (mCons (mVar 0) (mCons (mLst (mCons (mC (.str "all")) (mCons (mC (.str "bought")) (mCons (mC (.str "had")) (mCons (mC (.str "m")) (mCons (mC (.str "sold")) (mCons (mC (.str "t")) mNil))))))) mNil))) (mUn opTuple (mVar 5))))) (mRet (mTup (mCons (mVar 3) (mCons (mUn opTuple (mLc (srcSeq (mUn opSortD (mVar 4))) (.nm 8) [8] mYes (mTup (mCons (mVar 8) (mCons (mOp opIx (mVar 4) (mVar 8)) mNil))))) mNil)))))))
noncomputable def F__law_scheme : Fn Dk := mFn 1 10 B__law_scheme
noncomputable def B__law_columns : M Dk Fl := (mSeq (mSet 2 (mLst mNil)) (mSeq (mFor (srcSeq (mOp opIx (mVar 0) (mC (.int 1)))) (.tp [(.nm 3), (.nm 4)]) (mIf (mTest (mOp (opIn false) (mVar 3) (mVar 1))) (mDrop (mMethL 2 opExt (mVar 4))) mNext)) (mRet (mUn opTuple (mUn opSS (mVar 2))))))
noncomputable def F__law_columns : Fn Dk := mFn 2 5 B__law_columns
noncomputable def B_columns_in : M Dk Fl := (mRet (mOp opIx (mUn opDict (mOp opIx (mVar 0) (mC (.int 1)))) (mVar 1)))
noncomputable def F_columns_in : Fn Dk := mFn 2 2 B_columns_in
noncomputable def B_columns_of : M Dk Fl := (mSeq (mSet 2 (mLst mNil)) (mSeq (mFor (srcSeq (mVar 1)) (.nm 3) (mDrop (mMethL 2 opExt (mCall F_columns_in (mCons (mVar 0) (mCons (mVar 3) mNil)))))) (mRet (mUn opTuple (mUn opSS (mVar 2))))))
noncomputable def F_columns_of : Fn Dk := mFn 2 4 B_columns_of
theorem getI {α : Type} {l : List α} {i : Int} {x : α} (h : atI l i = some x) : x ∈ l := by
  unfold atI at h
  obtain ⟨j, _, e⟩ := Option.bind_eq_some_iff.mp h
  exact List.mem_of_getElem? e
theorem one_lst {n : Nat} {ds : List D} {g : Dk} (h : Ok (n + 1) g) (hd : ds ≠ []) (hz : ds.length ≤ 1000) : ∃ d g', F__law_one [.obj 0, .lst ds] g = some (d, g') ∧ d ∈ ds ∧ Ok n g' := by
  have hp : 0 < ds.length := List.length_pos_iff.mpr hd
  obtain ⟨r, g', e, h0, h1, ok⟩ := next_ok (m := (ds.length : Int)) h (by omega) (by omega)
  obtain ⟨d, e2, _⟩ := atI_some (l := ds) h0 h1
  refine ⟨d, g', mFn_rt (st := [some (.sh (.obj 0)), some (.sh (.lst ds))]) rfl ?_, getI e2, ok⟩
  simp only [B__law_one, mRet, mTake, mOp, mUn, mCall, mCons, mNil, mVar, List.map_cons, List.map_nil, List.cons_append, List.nil_append, List.replicate, List.getElem?_cons_zero, List.getElem?_cons_succ, bnd_some, peek, take, Option.bind_some, Option.map_some, opLen, e, opIx, e2, Nat.sub_self, List.replicate_zero]
theorem one_tup {n : Nat} {ds : List D} {g : Dk} (h : Ok (n + 1) g) (hd : ds ≠ []) (hz : ds.length ≤ 1000) : ∃ d g', F__law_one [.obj 0, .tup ds] g = some (d, g') ∧ d ∈ ds ∧ Ok n g' := by
  have hp : 0 < ds.length := List.length_pos_iff.mpr hd
  obtain ⟨r, g', e, h0, h1, ok⟩ := next_ok (m := (ds.length : Int)) h (by omega) (by omega)
  obtain ⟨d, e2, _⟩ := atI_some (l := ds) h0 h1
  refine ⟨d, g', mFn_rt (st := [some (.sh (.obj 0)), some (.sh (.tup ds))]) rfl ?_, getI e2, ok⟩
  simp only [B__law_one, mRet, mTake, mOp, mUn, mCall, mCons, mNil, mVar, List.map_cons, List.map_nil, List.cons_append, List.nil_append, List.replicate, List.getElem?_cons_zero, List.getElem?_cons_succ, bnd_some, peek, take, Option.bind_some, Option.map_some, opLen, e, opIx, e2, Nat.sub_self, List.replicate_zero]
/-- a slot with a list, whoever has it -/
def Has1 (st : Sl) (j : Nat) (names : List D) : Prop := st[j]? = some (some (.sh (.lst names))) ∨ st[j]? = some (some (.ow (.lst names)))
theorem take_has {st : Sl} {j : Nat} {names : List D} {g : Dk} (h : Has1 st j names) : mTake (mVar j) st g = some (.lst names, st.set j (some (.sh (.lst names))), g) := by
  have hl : j < st.length := by rcases h with h | h <;> exact (List.getElem?_eq_some_iff.mp h).1
  rcases h with h | h
  · have e : st.set j (some (.sh (.lst names))) = st := by
      apply List.ext_getElem?
      intro i
      by_cases hi : j = i
      · subst hi; rw [List.getElem?_set_self hl, h]
      · rw [List.getElem?_set_ne hi]
    simp only [mTake, mVar, h, bnd_some, take, Option.map_some, e]
  · simp only [mTake, mVar, h, bnd_some, take, Option.map_some]
theorem draws {st0 : Sl} {v j : Nat} {names : List D} {K n : Nat} {g : Dk} (items : List D) (hlen : items.length ≤ K) (h0 : st0[0]? = some (some (.sh (.obj 0)))) (hj : Has1 st0 j names) (hv : st0[v]? = some none) (hn : names ≠ []) (hz : names.length ≤ 1000) (ok : Ok (n + K) g) :
    ∃ acc st' g', compM (.nm v) [v] mYes (mCall F__law_one (mCons (mVar 0) (mCons (mVar j) mNil))) items [] st0 g = some (acc, st', g') ∧ acc.length = items.length ∧ (∀ d ∈ acc, d ∈ names) ∧ Ok n g' ∧ (items ≠ [] → wipeS st' [v] = st0.set j (some (.sh (.lst names)))) := by
  have v0 : v ≠ 0 := fun e => by rw [e, h0] at hv; cases hv
  have vj : v ≠ j := fun e => by rw [e] at hv; rcases hj with h | h <;> (rw [h] at hv; cases hv)
  have j0 : j ≠ 0 := fun e => by rw [e] at hj; rcases hj with h | h <;> (rw [h0] at h; cases h)
  have lv : v < st0.length := (List.getElem?_eq_some_iff.mp hv).1
  have lj : j < st0.length := by rcases hj with h | h <;> exact (List.getElem?_eq_some_iff.mp h).1
  have e0 : st0.set v none = st0 := by
    apply List.ext_getElem?
    intro i
    by_cases hi : v = i
    · subst hi; rw [List.getElem?_set_self lv, hv]
    · rw [List.getElem?_set_ne hi]
  have ew : (st0.set j (some (.sh (.lst names)))).set v none = st0.set j (some (.sh (.lst names))) := by
    rw [List.set_comm _ _ (Ne.symm vj), e0]
  obtain ⟨acc, st', g', e, ha, hm, hk, hw⟩ := compM_rule (p := .nm v) (vs := [v]) (test := mYes) (elt := (mCall F__law_one (mCons (mVar 0) (mCons (mVar j) mNil)) : M Dk S))
    (fun i acc st g => acc.length = i ∧ (∀ d ∈ acc, d ∈ names) ∧ (i ≤ K → Ok (n + (K - i)) g) ∧ (if i = 0 then st = st0 else st.set v none = st0.set j (some (.sh (.lst names))))) items 0 [] st0 g ⟨rfl, (fun d hd => nomatch hd), (fun _ => ok), rfl⟩ fun k d acc st g e ⟨ha, hm, hk, hw⟩ => by
      have hkl : k < items.length := (List.getElem?_eq_some_iff.mp e).1
      -- the slots at the start of a turn
      have hs : ∃ s, st.set v none = s ∧ Has1 s j names ∧ s[0]? = some (some (.sh (.obj 0))) ∧ s.set j (some (.sh (.lst names))) = st0.set j (some (.sh (.lst names))) ∧ s.length = st0.length := by
        by_cases hk0 : 0 + k = 0
        · rw [if_pos hk0] at hw; subst hw
          exact ⟨st, e0, hj, h0, rfl, rfl⟩
        · rw [if_neg hk0] at hw
          refine ⟨_, hw, .inl (List.getElem?_set_self lj), ?_, List.set_set .., by simp⟩
          rw [List.getElem?_set_ne j0]; exact h0
      obtain ⟨s, es, hh, hs0, hsj, hsl⟩ := hs
      have w1 : wipeS st [v] = s := es
      rw [w1]
      refine ⟨s.set v (some (.sh d)), ?_, true, s.set v (some (.sh d)), g, rfl, fun _ => ?_, fun q => by cases q⟩
      · simp only [asg]
        rw [if_pos (by rw [hsl]; exact lv)]
      · have hh' : Has1 (s.set v (some (.sh d))) j names := by
          rcases hh with h | h
          · exact .inl (by rw [List.getElem?_set_ne vj]; exact h)
          · exact .inr (by rw [List.getElem?_set_ne vj]; exact h)
        have hs0' : (s.set v (some (.sh d)))[0]? = some (some (.sh (.obj 0))) := by rw [List.getElem?_set_ne v0]; exact hs0
        obtain ⟨x, g2, ex, hx, ok2⟩ := one_lst (n := n + (K - (0 + k + 1))) (g := g) (by have := hk (by omega); rw [show n + (K - (0 + k + 1)) + 1 = n + (K - (0 + k)) by omega]; exact this) hn hz
        refine ⟨x, (s.set v (some (.sh d))).set j (some (.sh (.lst names))), g2, ?_, by simp [ha], fun y hy => ?_, fun _ => ok2, ?_⟩
        · have m0 : mTake (mVar 0) (s.set v (some (.sh d))) g = some (.obj 0, s.set v (some (.sh d)), g) := by simp only [mTake, mVar, hs0', bnd_some, take, Option.map_some]
          have mc : mCons (mVar 0) (mCons (mVar j) mNil) (s.set v (some (.sh d))) g = some ([.obj 0, .lst names], (s.set v (some (.sh d))).set j (some (.sh (.lst names))), g) := by
            simp only [mCons, m0, bnd_some, take_has hh', mNil]
          rw [mTake, mCall, mc]
          simp only [bnd_some, ex, Option.map_some, take]
        · rcases List.mem_append.mp hy with h | h
          · exact hm y h
          · simp at h; rw [h]; exact hx
        · rw [if_neg (by omega), List.set_comm _ _ vj, List.set_set, List.set_comm _ _ (Ne.symm vj)]
          have : s.set v none = s := by rw [← es, List.set_set]
          rw [this, hsj]
  refine ⟨acc, st', g', e, by simpa using ha, hm, ?_, fun hne => ?_⟩
  · have := hk (by simpa using hlen)
    exact this.mono (by omega)
  · have : 0 + items.length ≠ 0 := by
      have := List.length_pos_iff.mpr hne; omega
    rw [if_neg this] at hw
    exact hw
/-! ### how the functions run -/
theorem nr {α : Sort u} {a b : α} (h : a = b) : a = b := h
inductive UnitOf {α : Sort u} (k : α) : Type where
  | u
/-- as bnd; simp does not look into what follows -/
def thn {G α β : Type} (x : Option (α × Sl × G)) (k : α → Sl → G → Option β) (u : UnitOf k) : Option β := bnd x k
section
variable {G : Type} {α β : Type} {st : Sl} {g : G} {a b c : M G S} {x y : M G Bool} {p q : M G Fl} {u : M G (List D)} {i j : Nat} {d e : D} {f h : M G α} {op : D → D → Option S} {un : D → Option S} {F : Fn G} {s t : S} {ds : List D}
@[simp] theorem thn_some {a : α} {k : α → Sl → G → Option β} {u : UnitOf k} : thn (some (a, st, g)) k u = k a st g := nr rfl
@[simp] theorem thn_none {k : α → Sl → G → Option β} {u : UnitOf k} : thn (none : Option (α × Sl × G)) k u = none := nr rfl
def kSeq (q : M G Fl) : Fl → Sl → G → Option (Fl × Sl × G)
  | .nx, st, g => q st g
  | .rt d, st, g => some (.rt d, st, g)
  | .bk, st, g => some (.bk, st, g)
  | .ct, st, g => some (.ct, st, g)
@[simp] theorem kSeq_nx : kSeq q .nx st g = q st g := nr rfl
@[simp] theorem kSeq_rt : kSeq q (.rt d) st g = some (.rt d, st, g) := nr rfl
@[simp] theorem kSeq_bk : kSeq q .bk st g = some (.bk, st, g) := nr rfl
@[simp] theorem kSeq_ct : kSeq q .ct st g = some (.ct, st, g) := nr rfl
@[simp] theorem r_seq : mSeq p q st g = thn (p st g) (kSeq q) .u := nr (by unfold mSeq thn; congr 1; funext fl st g; cases fl <;> rfl)
def kRet (d : D) (st : Sl) (g : G) : Option (Fl × Sl × G) := some (.rt d, st, g)
@[simp] theorem kRet_eq : kRet d st g = some (.rt d, st, g) := nr rfl
@[simp] theorem r_ret : mRet a st g = thn (mTake a st g) kRet .u := nr rfl
def kDrop (_ : S) (st : Sl) (g : G) : Option (Fl × Sl × G) := some (.nx, st, g)
@[simp] theorem kDrop_eq : kDrop s st g = some (.nx, st, g) := nr rfl
@[simp] theorem r_drop : mDrop a st g = thn (a st g) kDrop .u := nr rfl
@[simp] theorem r_next : (mNext : M G Fl) st g = some (.nx, st, g) := nr rfl
def kTake (x : S) (st : Sl) (g : G) : Option (D × Sl × G) := (take x st).map fun p => (p.1, p.2, g)
def kAtT (i : Nat) (st : Sl) (g : G) : Option (Option S) → Option (D × Sl × G)
  | some (some (.sh d)) => some (d, st, g)
  | some (some (.ow d)) => some (d, st.set i (some (.sh d)), g)
  | _ => none
@[simp] theorem kTake_sh : kTake (.sh d) st g = some (d, st, g) := nr rfl
@[simp] theorem kTake_ow : kTake (.ow d) st g = some (d, st, g) := nr rfl
@[simp] theorem kTake_at : kTake (.at i) st g = kAtT i st g st[i]? := nr (by
  show ((match st[i]? with | some (some (.sh d)) => some (d, st) | some (some (.ow d)) => some (d, st.set i (some (.sh d))) | _ => none : Option (D × Sl)).map fun p => (p.1, p.2, g)) = kAtT i st g st[i]?
  generalize st[i]? = o
  exact match o with
    | none => rfl
    | some none => rfl
    | some (some s) => by cases s <;> rfl)
@[simp] theorem kAtT_sh : kAtT i st g (some (some (.sh d))) = some (d, st, g) := nr rfl
@[simp] theorem kAtT_ow : kAtT i st g (some (some (.ow d))) = some (d, st.set i (some (.sh d)), g) := nr rfl
@[simp] theorem r_take : mTake a st g = thn (a st g) kTake .u := nr rfl
def kSet (i : Nat) (x : S) (st : Sl) (g : G) : Option (Fl × Sl × G) := if i < st.length then (match x with | .sh d => some (.nx, st.set i (some (.sh d)), g) | .ow d => some (.nx, st.set i (some (.ow d)), g) | .at j => (take (.at j) st).map fun p => (.nx, p.2.set i (some (.sh p.1)), g) | .any => none) else none
def kSetD (i : Nat) (d : D) (st : Sl) (g : G) : Option (Fl × Sl × G) := some (.nx, st.set i (some (.sh d)), g)
@[simp] theorem kSetD_eq : kSetD i d st g = some (.nx, st.set i (some (.sh d)), g) := nr rfl
@[simp] theorem kSet_sh : kSet i (.sh d) st g = if i < st.length then some (.nx, st.set i (some (.sh d)), g) else none := nr rfl
@[simp] theorem kSet_ow : kSet i (.ow d) st g = if i < st.length then some (.nx, st.set i (some (.ow d)), g) else none := nr rfl
@[simp] theorem kSet_at : kSet i (.at j) st g = if i < st.length then thn (kTake (.at j) st g) (kSetD i) .u else none := nr (by
  unfold kSet kTake thn
  simp only
  cases take (.at j) st <;> rfl)
@[simp] theorem r_set : mSet i a st g = thn (a st g) (kSet i) .u := nr rfl
def kIf (f h : M G α) : Bool → Sl → G → Option (α × Sl × G)
  | true, st, g => f st g
  | false, st, g => h st g
@[simp] theorem kIf_t : kIf f h true st g = f st g := nr rfl
@[simp] theorem kIf_f : kIf f h false st g = h st g := nr rfl
@[simp] theorem kIf_d {P : Prop} [Decidable P] : kIf f h (decide P) st g = if P then f st g else h st g := by by_cases e : P <;> simp [e]
@[simp] theorem kIf_n {b : Bool} : kIf f h (!b) st g = kIf h f b st g := by cases b <;> simp
@[simp] theorem r_if : mIf x f h st g = thn (x st g) (kIf f h) .u := nr (by unfold mIf thn; congr 1; funext b st g; cases b <;> rfl)
@[simp] theorem r_and : mAnd x y st g = thn (x st g) (kIf y (fun st g => some (false, st, g))) .u := nr (by unfold mAnd thn; congr 1; funext b st g; cases b <;> rfl)
@[simp] theorem r_or : mOr x y st g = thn (x st g) (kIf (fun st g => some (true, st, g)) y) .u := nr (by unfold mOr thn; congr 1; funext b st g; cases b <;> rfl)
def kNot (b : Bool) (st : Sl) (g : G) : Option (Bool × Sl × G) := some (!b, st, g)
@[simp] theorem kNot_eq {b : Bool} : kNot b st g = some (!b, st, g) := nr rfl
@[simp] theorem r_not : mNot x st g = thn (x st g) kNot .u := nr rfl
def kOfB (b : Bool) (st : Sl) (g : G) : Option (S × Sl × G) := some (.sh (.bl b), st, g)
@[simp] theorem kOfB_eq {b : Bool} : kOfB b st g = some (.sh (.bl b), st, g) := nr rfl
@[simp] theorem r_ofB : mOfB x st g = thn (x st g) kOfB .u := nr rfl
@[simp] theorem r_andV : mAndV a b st g = thn (mTest a st g) (kIf b (mC (.bl false))) .u := nr (by unfold mAndV; exact r_if)
@[simp] theorem r_orV : mOrV a b st g = thn (mTest a st g) (kIf (mC (.bl true)) b) .u := nr (by unfold mOrV; exact r_if)
def kTest : S → Sl → G → Option (Bool × Sl × G)
  | .sh (.bl b), st, g => some (b, st, g)
  | _, _, _ => none
@[simp] theorem kTest_bl {b : Bool} : kTest (.sh (.bl b)) st g = some (b, st, g) := nr rfl
@[simp] theorem r_test : mTest a st g = thn (a st g) kTest .u := nr (by
  unfold mTest thn; congr 1; funext s st g
  cases s with
  | sh d => cases d <;> rfl
  | _ => rfl)
@[simp] theorem r_c : (mC d : M G S) st g = some (.sh d, st, g) := nr rfl
def kVar (i : Nat) (st : Sl) (g : G) : Option (Option S) → Option (S × Sl × G)
  | some (some (.sh d)) => some (.sh d, st, g)
  | some (some (.ow _)) => some (.at i, st, g)
  | _ => none
@[simp] theorem kVar_sh : kVar i st g (some (some (.sh d))) = some (.sh d, st, g) := nr rfl
@[simp] theorem kVar_ow : kVar i st g (some (some (.ow d))) = some (.at i, st, g) := nr rfl
@[simp] theorem r_var : (mVar i : M G S) st g = kVar i st g st[i]? := nr (by
  show (match st[i]? with | some (some (.sh d)) => some (.sh d, st, g) | some (some (.ow _)) => some (.at i, st, g) | _ => none) = kVar i st g st[i]?
  generalize st[i]? = o
  exact match o with
    | none => rfl
    | some none => rfl
    | some (some s) => by cases s <;> rfl)
/-- what is seen -/
def kRes (s : Option S) (st : Sl) (g : G) : Option (S × Sl × G) := s.map fun z => (z, st, g)
@[simp] theorem kRes_some : kRes (some s) st g = some (s, st, g) := nr rfl
@[simp] theorem kRes_none : kRes none st g = none := nr rfl
@[simp] theorem kRes_ite {P : Prop} [Decidable P] {z w : Option S} : kRes (if P then z else w) st g = if P then kRes z st g else kRes w st g := by by_cases e : P <;> simp [e]
@[simp] theorem kRes_map {z : Option D} : kRes (z.map S.sh) st g = match z with | some d => some (.sh d, st, g) | none => none := by cases z <;> rfl
def kOp2 (op : D → D → Option S) (dx : D) (st : Sl) (g : G) : Option D → Option (S × Sl × G)
  | some dy => kRes (op dx dy) st g
  | none => none
def kOp1 (op : D → D → Option S) (y : S) (st : Sl) (g : G) : Option D → Option (S × Sl × G)
  | some dx => kOp2 op dx st g (peek y st)
  | none => none
@[simp] theorem kOp2_some : kOp2 op d st g (some e) = kRes (op d e) st g := nr rfl
@[simp] theorem kOp1_some : kOp1 op t st g (some d) = kOp2 op d st g (peek t st) := nr rfl
def kOpB (op : D → D → Option S) (x y : S) (st : Sl) (g : G) : Option (S × Sl × G) := kOp1 op y st g (peek x st)
@[simp] theorem kOpB_eq : kOpB op s t st g = kOp1 op t st g (peek s st) := nr rfl
def kOpA (op : D → D → Option S) (b : M G S) (x : S) (st : Sl) (g : G) : Option (S × Sl × G) := thn (b st g) (kOpB op x) .u
@[simp] theorem kOpA_eq : kOpA op b s st g = thn (b st g) (kOpB op s) .u := nr rfl
@[simp] theorem r_op : mOp op a b st g = thn (a st g) (kOpA op b) .u := nr (by
  unfold mOp thn kOpA; congr 1; funext x st g
  unfold thn; congr 1; funext y st g
  unfold kOpB kOp1 kOp2 kRes
  cases peek x st with
  | none => rfl
  | some dx => cases peek y st <;> rfl)
def kUn1 (un : D → Option S) (st : Sl) (g : G) : Option D → Option (S × Sl × G)
  | some d => kRes (un d) st g
  | none => none
@[simp] theorem kUn1_some : kUn1 un st g (some d) = kRes (un d) st g := nr rfl
def kUn (un : D → Option S) (x : S) (st : Sl) (g : G) : Option (S × Sl × G) := kUn1 un st g (peek x st)
@[simp] theorem kUn_eq : kUn un s st g = kUn1 un st g (peek s st) := nr rfl
@[simp] theorem r_un : mUn un a st g = thn (a st g) (kUn un) .u := nr (by
  unfold mUn thn; congr 1; funext x st g
  unfold kUn kUn1 kRes
  cases peek x st <;> rfl)
@[simp] theorem r_nil : (mNil : M G (List D)) st g = some ([], st, g) := nr rfl
def kCons2 (d : D) (ds : List D) (st : Sl) (g : G) : Option (List D × Sl × G) := some (d :: ds, st, g)
@[simp] theorem kCons2_eq : kCons2 d ds st g = some (d :: ds, st, g) := nr rfl
def kCons (u : M G (List D)) (d : D) (st : Sl) (g : G) : Option (List D × Sl × G) := thn (u st g) (kCons2 d) .u
@[simp] theorem kCons_eq : kCons u d st g = thn (u st g) (kCons2 d) .u := nr rfl
@[simp] theorem r_cons : mCons a u st g = thn (mTake a st g) (kCons u) .u := nr rfl
def kTup (ds : List D) (st : Sl) (g : G) : Option (S × Sl × G) := if ds.length ≤ sizeLine then some (.sh (.tup ds), st, g) else none
@[simp] theorem kTup_eq : kTup ds st g = if ds.length ≤ sizeLine then some (.sh (.tup ds), st, g) else none := nr rfl
@[simp] theorem r_tup : mTup u st g = thn (u st g) kTup .u := nr rfl
def kLst (ds : List D) (st : Sl) (g : G) : Option (S × Sl × G) := if ds.length ≤ sizeLine then some (.ow (.lst ds), st, g) else none
@[simp] theorem kLst_eq : kLst ds st g = if ds.length ≤ sizeLine then some (.ow (.lst ds), st, g) else none := nr rfl
@[simp] theorem r_lst : mLst u st g = thn (u st g) kLst .u := nr rfl
def kOut (st : Sl) : Option (D × G) → Option (S × Sl × G)
  | some p => some (.sh p.1, st, p.2)
  | none => none
@[simp] theorem kOut_some : kOut st (some (d, g)) = some (.sh d, st, g) := nr rfl
def kCall (F : Fn G) (ds : List D) (st : Sl) (g : G) : Option (S × Sl × G) := kOut st (F ds g)
@[simp] theorem kCall_eq : kCall F ds st g = kOut st (F ds g) := nr rfl
@[simp] theorem r_call : mCall F u st g = thn (u st g) (kCall F) .u := nr (by
  unfold mCall thn; congr 1; funext ds st g
  unfold kCall kOut
  cases F ds g <;> rfl)
def kSl2 (l h : Option Int) (st : Sl) (g : G) : Option D → Option (S × Sl × G)
  | some d => kRes (opSl d l h) st g
  | none => none
@[simp] theorem kSl2_some {l h : Option Int} : kSl2 l h st g (some d) = kRes (opSl d l h) st g := nr rfl
def kSl1 (x : S) (l h : Option Int) (st : Sl) (g : G) : Option (S × Sl × G) := kSl2 l h st g (peek x st)
@[simp] theorem kSl1_eq {l h : Option Int} : kSl1 s l h st g = kSl2 l h st g (peek s st) := nr rfl
def kSl0 (fh : M G (Option Int)) (x : S) (l : Option Int) (st : Sl) (g : G) : Option (S × Sl × G) := thn (fh st g) (kSl1 x l) .u
@[simp] theorem kSl0_eq {fh : M G (Option Int)} {l : Option Int} : kSl0 fh s l st g = thn (fh st g) (kSl1 s l) .u := nr rfl
def kSl (fl fh : M G (Option Int)) (x : S) (st : Sl) (g : G) : Option (S × Sl × G) := thn (fl st g) (kSl0 fh x) .u
@[simp] theorem kSl_eq {fl fh : M G (Option Int)} : kSl fl fh s st g = thn (fl st g) (kSl0 fh s) .u := nr rfl
@[simp] theorem r_sl {l h : M G (Option Int)} : mSl a l h st g = thn (a st g) (kSl l h) .u := nr (by
  unfold mSl thn kSl; congr 1; funext x st g
  unfold thn kSl0; congr 1; funext l st g
  unfold thn kSl1 kSl2 kRes; congr 1; funext h st g
  cases peek x st <;> rfl)
@[simp] theorem r_noP : (mNoP : M G (Option Int)) st g = some (none, st, g) := nr rfl
def kPart : S → Sl → G → Option (Option Int × Sl × G)
  | .sh (.int i), st, g => some (some i, st, g)
  | _, _, _ => none
@[simp] theorem kPart_int {i : Int} : kPart (.sh (.int i)) st g = some (some i, st, g) := nr rfl
@[simp] theorem r_part : mPart a st g = thn (a st g) kPart .u := nr (by
  unfold mPart thn; congr 1; funext s st g
  cases s with
  | sh d => cases d <;> rfl
  | _ => rfl)
@[simp] theorem r_dnew : (mDNew : M G S) st g = some (.ow (.dct []), st, g) := nr rfl
@[simp] theorem r_yes : (mYes : M G Bool) st g = some (true, st, g) := nr rfl
def kHold (x : S) (st : Sl) (g : G) : Option (S × Sl × G) := (hold x st).map fun p => (p.1, p.2, g)
def kHoldD (d : D) (st : Sl) (g : G) : Option (S × Sl × G) := some (.sh d, st, g)
@[simp] theorem kHoldD_eq : kHoldD d st g = some (.sh d, st, g) := nr rfl
@[simp] theorem kHold_sh : kHold (.sh d) st g = some (.sh d, st, g) := nr rfl
@[simp] theorem kHold_ow : kHold (.ow d) st g = some (.ow d, st, g) := nr rfl
@[simp] theorem kHold_at : kHold (.at i) st g = thn (kTake (.at i) st g) kHoldD .u := nr (by
  unfold kHold kTake thn hold
  simp only
  cases take (.at i) st <;> rfl)
@[simp] theorem r_hold : mHold a st g = thn (a st g) kHold .u := nr rfl
def kPar2 (i j : Nat) (x y : S) (st : Sl) (g : G) : Option (Fl × Sl × G) := if i < st.length ∧ j < st.length then some (.nx, (st.set j (some y)).set i (some x), g) else none
@[simp] theorem kPar2_eq : kPar2 i j s t st g = if i < st.length ∧ j < st.length then some (.nx, (st.set j (some t)).set i (some s), g) else none := nr rfl
def kPar (i j : Nat) (b : M G S) (x : S) (st : Sl) (g : G) : Option (Fl × Sl × G) := thn (mHold b st g) (kPar2 i j x) .u
@[simp] theorem kPar_eq : kPar i j b s st g = thn (mHold b st g) (kPar2 i j s) .u := nr rfl
@[simp] theorem r_par : mPar i j a b st g = thn (mHold a st g) (kPar i j b) .u := nr rfl
def kLc2 (vs : List Nat) (acc : List D) (st : Sl) (g : G) : Option (S × Sl × G) := some (.ow (.lst acc), wipeS st vs, g)
@[simp] theorem kLc2_eq {vs : List Nat} : kLc2 vs ds st g = some (.ow (.lst ds), wipeS st vs, g) := nr rfl
def kLc (t : Pt) (vs : List Nat) (x : M G Bool) (a : M G S) (z : List D × List S) (st : Sl) (g : G) : Option (S × Sl × G) := thn (compM t vs x a z.1 [] st g) (kLc2 vs) .u
@[simp] theorem kLc_eq {t : Pt} {vs : List Nat} {z : List D × List S} : kLc t vs x a z st g = thn (compM t vs x a z.1 [] st g) (kLc2 vs) .u := nr rfl
@[simp] theorem r_lc {s : M G (List D × List S)} {t : Pt} {vs : List Nat} : mLc s t vs x a st g = thn (s st g) (kLc t vs x a) .u := nr rfl
def kFor (t : Pt) (p : M G Fl) (z : List D × List S) (st : Sl) (g : G) : Option (Fl × Sl × G) := forM t p z.1 st g
@[simp] theorem kFor_eq {t : Pt} {z : List D × List S} : kFor t p z st g = forM t p z.1 st g := nr rfl
@[simp] theorem r_for {s : M G (List D × List S)} {t : Pt} : mFor s t p st g = thn (s st g) (kFor t p) .u := nr rfl
def kSeqS : D → Sl → G → Option ((List D × List S) × Sl × G)
  | .lst ds, st, g => some ((ds, [.sh (.lst ds)]), st, g)
  | .tup ds, st, g => some ((ds, [.sh (.tup ds)]), st, g)
  | .str x, st, g => if x.cps.size ≤ sizeLine then some ((chars x, []), st, g) else none
  | _, _, _ => none
@[simp] theorem kSeqS_lst : kSeqS (.lst ds) st g = some ((ds, [.sh (.lst ds)]), st, g) := nr rfl
@[simp] theorem kSeqS_tup : kSeqS (.tup ds) st g = some ((ds, [.sh (.tup ds)]), st, g) := nr rfl
@[simp] theorem kSeqS_str {x : Str} : kSeqS (.str x) st g = if x.cps.size ≤ sizeLine then some ((chars x, []), st, g) else none := nr rfl
@[simp] theorem r_srcSeq : srcSeq a st g = thn (mTake a st g) kSeqS .u := nr (by
  unfold srcSeq thn; congr 1; funext d st g
  cases d <;> rfl)
def okR (j : Int) : Bool := decide (-(2 ^ 62) ≤ j ∧ j < 2 ^ 62 ∧ j.toNat ≤ sizeLine)
def rngD (d : D) (st : Sl) (g : G) : Option ((List D × List S) × Sl × G) := match d with
  | .int j => if okR j = true then some ((rangeD 0 j.toNat, []), st, g) else none
  | _ => none
@[simp] theorem r_srcR : srcRange1 a st g = thn (mTake a st g) rngD .u := nr (by
  unfold srcRange1 thn rngD okR
  congr 1
  funext d st g
  cases d <;> simp only [decide_eq_true_eq])
@[simp] theorem rngD_int {j : Int} (h : okR j = true) : rngD (.int j) st g = some ((rangeD 0 j.toNat, []), st, g) := by simp only [rngD, h, if_true]
theorem okR_of {j : Int} (h0 : -1000 ≤ j) (h1 : j ≤ 1000) : okR j = true := by
  simp only [okR, decide_eq_true_eq]
  exact ⟨by omega, by omega, by rw [sizeLine_eq]; omega⟩
@[simp] theorem opSl_tup {ds : List D} {l h : Option Int} : opSl (.tup ds) l h = some (.sh (.tup (cutD ds l h))) := nr rfl
@[simp] theorem opSl_lst {ds : List D} {l h : Option Int} : opSl (.lst ds) l h = some (.ow (.lst (cutD ds l h))) := nr rfl
@[simp] theorem opTuple_tup {ds : List D} : opTuple (.tup ds) = some (.sh (.tup ds)) := nr rfl
@[simp] theorem opTuple_lst {ds : List D} : opTuple (.lst ds) = some (.sh (.tup ds)) := nr rfl
@[simp] theorem opList_tup {ds : List D} : opList (.tup ds) = some (.ow (.lst ds)) := nr rfl
@[simp] theorem opList_lst {ds : List D} : opList (.lst ds) = some (.ow (.lst ds)) := nr rfl
@[simp] theorem opLen_tup {ds : List D} : opLen (.tup ds) = some (.sh (.int ds.length)) := nr rfl
@[simp] theorem opLen_lst {ds : List D} : opLen (.lst ds) = some (.sh (.int ds.length)) := nr rfl
@[simp] theorem opAdd_int {a b : Int} : opAdd (.int a) (.int b) = some (.sh (.int (a + b))) := nr rfl
@[simp] theorem opIx_lst {ds : List D} {i : Int} : opIx (.lst ds) (.int i) = (atI ds i).map S.sh := nr rfl
@[simp] theorem opIx_tup {ds : List D} {i : Int} : opIx (.tup ds) (.int i) = (atI ds i).map S.sh := nr rfl
@[simp] theorem opIx_str {kvs : List (D × D)} {k : Str} : opIx (.dct kvs) (.str k) = (dlook kvs (.str k)).map S.sh := nr rfl
@[simp] theorem at0 {α : Type} {x : α} {l : List α} : atI (x :: l) 0 = some x := by simp [atI, ixN]
@[simp] theorem at1 {α : Type} {x y : α} {l : List α} : atI (x :: y :: l) 1 = some y := by
  have : (1 : Int) < ((x :: y :: l).length : Int) := by simp only [List.length_cons]; omega
  simp only [atI, ixN, this, if_true]
  rfl
@[simp] theorem pk_sh : peek (.sh d) st = some d := nr rfl
@[simp] theorem pk_ow : peek (.ow d) st = some d := nr rfl
@[simp] theorem tk_sh : take (.sh d) st = some (d, st) := nr rfl
@[simp] theorem tk_ow : take (.ow d) st = some (d, st) := nr rfl
@[simp] theorem hd_sh : hold (.sh d) st = some (.sh d, st) := nr rfl
@[simp] theorem hd_ow : hold (.ow d) st = some (.ow d, st) := nr rfl
@[simp] theorem pk_at : peek (.at i) st = match st[i]? with
    | some (some (.sh d)) => some d
    | some (some (.ow d)) => some d
    | _ => none := nr rfl
@[simp] theorem tk_at : take (.at i) st = match st[i]? with
    | some (some (.sh d)) => some (d, st)
    | some (some (.ow d)) => some (d, st.set i (some (.sh d)))
    | _ => none := nr rfl
@[simp] theorem hd_at : hold (.at i) st = (take (.at i) st).map fun p => (.sh p.1, p.2) := nr rfl
theorem le_sz {n : Nat} (h : n ≤ 10000) : n ≤ sizeLine := by rw [sizeLine_eq]; omega
end
end DL
namespace DL
open PySem PySem.Spec PyProof.Rows L2
/-! ### texts -/
abbrev tx (l : List Str) : List D := l.map D.str
def unT : D → Option Str
  | .str x => some x
  | _ => none
def ssT (l : List Str) : List Str := (ssD (tx l)).filterMap unT
theorem ssT_eq (l : List Str) : ssD (tx l) = tx (ssT l) := by
  have : ∀ ds : List D, (∀ d ∈ ds, ∃ x, d = .str x) → ds = tx (ds.filterMap unT) := by
    intro ds
    induction ds with
    | nil => intro _; rfl
    | cons d ds ih =>
      intro h
      obtain ⟨x, rfl⟩ := h d List.mem_cons_self
      have := ih fun d hd => h d (List.mem_cons_of_mem _ hd)
      have e : tx (List.filterMap unT (D.str x :: ds)) = D.str x :: tx (List.filterMap unT ds) := rfl
      rw [e, ← this]
  exact this _ fun d hd => by
    obtain ⟨x, _, rfl⟩ := List.mem_map.mp (ssD_sub hd)
    exact ⟨x, rfl⟩
theorem ssT_mem {l : List Str} {x : Str} : x ∈ ssT l ↔ x ∈ l := by
  have h : D.str x ∈ ssD (tx l) ↔ D.str x ∈ tx l := ssD_mem (injT_strs l)
  rw [ssT_eq] at h
  have inj : ∀ l : List Str, D.str x ∈ tx l ↔ x ∈ l := fun l => by simp [tx]
  rw [inj, inj] at h
  exact h
theorem ssT_asc (l : List Str) : Asc (tx (ssT l)) := by rw [← ssT_eq]; exact ssD_asc _
theorem ssT_len (l : List Str) : (ssT l).length ≤ l.length := by
  have := ssD_len (tx l)
  rw [ssT_eq] at this
  simpa using this
theorem ssT_ne {l : List Str} (h : l ≠ []) : ssT l ≠ [] := by
  obtain ⟨x, hx⟩ := List.exists_mem_of_ne_nil l h
  exact List.ne_nil_of_mem (ssT_mem.mpr hx)
theorem ssT_ext {a b : List Str} (h : ∀ x, x ∈ a ↔ x ∈ b) : ssT a = ssT b := by
  have : tx (ssT a) = tx (ssT b) := by
    refine asc_one (ssT_asc a) (ssT_asc b) fun y => ?_
    constructor
    · intro hy
      obtain ⟨x, hx, rfl⟩ := List.mem_map.mp hy
      exact List.mem_map_of_mem (ssT_mem.mpr ((h x).mp (ssT_mem.mp hx)))
    · intro hy
      obtain ⟨x, hx, rfl⟩ := List.mem_map.mp hy
      exact List.mem_map_of_mem (ssT_mem.mpr ((h x).mpr (ssT_mem.mp hx)))
  exact List.map_inj_right (fun x y h => D.str.inj h) |>.mp this
theorem okSS_strs {l : List Str} (h : l.length < 64) : okSS (tx l) = true := by
  simp [okSS, isT, h]
theorem opSS_lst {l : List Str} (h : l.length < 64) : opSS (.lst (tx l)) = some (.ow (.lst (tx (ssT l)))) := by simp only [opSS, okSS_strs h, if_true, ssT_eq]
theorem strs_of {ds : List D} {l : List Str} (h : ∀ d ∈ ds, d ∈ tx l) : ∃ ts, ds = tx ts ∧ ∀ t ∈ ts, t ∈ l := by
  induction ds with
  | nil => exact ⟨[], rfl, fun _ h => nomatch h⟩
  | cons d ds ih =>
    obtain ⟨ts, e, ht⟩ := ih fun d hd => h d (List.mem_cons_of_mem _ hd)
    obtain ⟨x, hx, rfl⟩ := List.mem_map.mp (h d List.mem_cons_self)
    exact ⟨x :: ts, by rw [e]; rfl, fun t ht' => by
      rcases List.mem_cons.mp ht' with e | h
      · exact e ▸ hx
      · exact ht t h⟩
theorem Asc.take {l : List D} (h : Asc l) (n : Nat) : Asc (l.take n) := List.Pairwise.sublist (List.take_sublist n l) h
theorem cut_to {l : List D} {n : Nat} : cutD l none (some (n : Int)) = l.take n := by
  unfold cutD
  have h1 : HT.sIx l.length 0 none = 0 := rfl
  have h2 : HT.sIx l.length l.length (some (n : Int)) = min n l.length := HT.sIx_nat l.length l.length n
  rw [h1, h2, List.drop_zero, Nat.sub_zero]
  rcases Nat.le_total n l.length with h | h
  · rw [Nat.min_eq_left h]
  · rw [Nat.min_eq_right h, List.take_of_length_le h, List.take_of_length_le (Nat.le_refl _)]
/-! ### dials -/
def colDrawn : List Str := ["a", "b", "buyer", "c", "day", "item", "shop", "thin"]
/-- all names that come -/
def allNames : List Str := (["a", "aa", "ab", "all", "b", "ba", "bought", "buyer", "c", "cc", "d", "day", "e"] : List Str) ++ ((["ff", "g", "h", "had", "i", "item", "m", "man", "p", "place", "q", "shop", "sold"] : List Str) ++ (["t", "thin", "thing", "u", "w", "x", "xx", "y", "z", "zz", "zzzzzz"] : List Str))
def colNames : List Str := allNames
def dialNames : List Str := allNames
def dialE (p : Str × Str) : D := .tup [.str p.1, .str p.2]
structure Dials (dl : List (Str × Str)) : Prop where
  ne : dl ≠ []
  few : dl.length ≤ 5
  asc : Asc (tx (dl.map (·.1)))
  col : ∀ p ∈ dl, p.1 ∈ colNames
  dial : ∀ p ∈ dl, p.2 ∈ dialNames
theorem rangeD_len (lo : Int) (n : Nat) : (rangeD lo n).length = n := by simp [rangeD]
theorem rangeD_ne {n : Nat} (h : 0 < n) : rangeD 0 n ≠ [] := fun e => by have := congrArg List.length e; rw [rangeD_len] at this; simp at this; omega
theorem dials_ok {n : Nat} {g : Dk} (ok : Ok (n + 20) g) : ∃ dl g', F__law_dials [.obj 0] g = some (.tup (dl.map dialE), g') ∧ Dials dl ∧ Ok n g' := by
  obtain ⟨r, g1, e1, r0, r1, ok1⟩ := next_ok (m := 6) (n := n + 19) ok (by decide) (by decide)
  obtain ⟨acc, s1, g2, e2, l2, m2, ok2, w2⟩ := draws (st0 := [some (.sh (.obj 0)), some (.ow (.lst (tx colDrawn))), none, none, none, none]) (v := 5) (j := 1) (names := tx colDrawn) (K := 6) (n := n + 13) (g := g1) (rangeD 0 (1 + r).toNat) (by rw [rangeD_len]; omega) rfl (.inr rfl) rfl (by decide) (by decide) (ok1.mono (by omega))
  have w2 := w2 (rangeD_ne (by omega))
  obtain ⟨ts, rfl, ht⟩ := strs_of m2
  obtain ⟨q, g3, e3, q0, q1, ok3⟩ := next_ok (m := 3) (n := n + 12) (g := g2) (ok2.mono (by omega)) (by decide) (by decide)
  have hts : ts.length < 64 := by rw [List.length_map, rangeD_len] at l2; omega
  have htn : ts ≠ [] := fun e => by rw [e, List.length_map, rangeD_len] at l2; simp at l2; omega
  obtain ⟨cols, hcols⟩ : ∃ cols, cols = (ssT ts).take 5 := ⟨_, rfl⟩
  have hcut : cutD (tx (ssT ts)) none (some 5) = tx cols := by rw [hcols]; exact (cut_to (n := 5)).trans List.map_take.symm
  have hcl : cols.length ≤ 5 := by rw [hcols, List.length_take]; omega
  have hcn : cols ≠ [] := by
    rw [hcols]
    have := ssT_ne htn
    cases h : ssT ts with
    | nil => exact absurd h this
    | cons x r => simp
  have hca : Asc (tx cols) := by rw [← hcut]; rw [show cutD (tx (ssT ts)) none (some 5) = (tx (ssT ts)).take 5 from cut_to (n := 5)]; exact (ssT_asc ts).take 5
  have hcm : ∀ c ∈ cols, c ∈ colNames := fun c hc => by
    rw [hcols] at hc
    exact (by decide +kernel : ∀ c ∈ colDrawn, c ∈ colNames) c (ht c (ssT_mem.mp (List.mem_of_mem_take hc)))
  -- the dials to draw from
  obtain ⟨dn, hdn, hne, hdz, hds⟩ : ∃ dn, atI [D.lst (tx ["man", "thing", "man"]), .lst (tx ["man"]), .lst (tx ["man", "thing", "place", "day"])] q = some (.lst (tx dn)) ∧ dn ≠ [] ∧ (tx dn).length ≤ 1000 ∧ ∀ x ∈ dn, x ∈ dialNames := by
    have hq : q = 0 ∨ q = 1 ∨ q = 2 := by omega
    rcases hq with rfl | rfl | rfl
    · exact ⟨["man", "thing", "man"], by simp [atI, ixN], by simp, by simp, by decide +kernel⟩
    · exact ⟨["man"], by simp [atI, ixN], by simp, by simp, by decide +kernel⟩
    · exact ⟨["man", "thing", "place", "day"], by simp [atI, ixN], by simp, by simp, by decide +kernel⟩
  obtain ⟨a3, s3, g4, e4, dl, rfl, hd1, hd2, ok4, w4⟩ := compM_rule (p := .nm 4) (vs := [4]) (test := mYes) (elt := (mTup (mCons (mVar 4) (mCons (mCall F__law_one (mCons (mVar 0) (mCons (mVar 3) mNil))) mNil)) : M Dk S))
    (fun i acc st g => ∃ dl : List (Str × Str), acc = dl.map dialE ∧ dl.map (·.1) = cols.take i ∧ (∀ p ∈ dl, p.2 ∈ dialNames) ∧ (i ≤ 5 → Ok (n + (5 - i)) g) ∧ st.set 4 none = [some (.sh (.obj 0)), some (.sh (.lst (tx colDrawn))), some (.sh (.lst (tx cols))), some (.sh (.lst (tx dn))), none, none]) (tx cols) 0 []
    [some (.sh (.obj 0)), some (.sh (.lst (tx colDrawn))), some (.sh (.lst (tx cols))), some (.sh (.lst (tx dn))), none, none] g3 ⟨[], rfl, by simp, (fun p hp => nomatch hp), (fun _ => ok3.mono (by omega)), rfl⟩ fun k d acc st g e ⟨dl, ha, h1, h2, hk, hw⟩ => by
      have hkl : k < (tx cols).length := (List.getElem?_eq_some_iff.mp e).1
      rw [List.length_map] at hkl
      rw [List.getElem?_map] at e
      obtain ⟨c, ec, rfl⟩ := Option.map_eq_some_iff.mp e
      have w1 : wipeS st [4] = _ := hw
      rw [w1]
      obtain ⟨x, g2, ex, hx, okx⟩ := one_lst (n := n + (5 - (0 + k + 1))) (g := g) (ds := tx dn) (by have := hk (by omega); rw [show n + (5 - (0 + k + 1)) + 1 = n + (5 - (0 + k)) by omega]; exact this) (by simpa using hne) hdz
      obtain ⟨y, hy, rfl⟩ := List.mem_map.mp hx
      refine ⟨_, rfl, true, _, g, rfl, fun _ => ⟨dialE (c, y), [some (.sh (.obj 0)), some (.sh (.lst (tx colDrawn))), some (.sh (.lst (tx cols))), some (.sh (.lst (tx dn))), some (.sh (.str c)), none], g2, ?_, dl ++ [(c, y)], by rw [ha]; simp, ?_, fun p hp => ?_, fun _ => okx, rfl⟩, fun h => by cases h⟩
      · simp [ex, le_sz, dialE]
      · rw [List.map_append, h1, show 0 + k + 1 = k + 1 by omega, List.take_add_one, ec, show 0 + k = k by omega]; rfl
      · rcases List.mem_append.mp hp with h | h
        · exact h2 p h
        · simp at h; rw [h]; exact hds y hy
  have hd1 : dl.map (·.1) = cols := by
    rw [hd1]
    exact List.take_of_length_le (by simp)
  refine ⟨dl, g4, mFn_rt (st := [some (.sh (.obj 0)), some (.sh (.lst (tx colDrawn))), some (.sh (.lst (tx cols))), some (.sh (.lst (tx dn))), none, none]) rfl ?_, ⟨fun e => ?_, ?_, ?_, fun p hp => ?_, hd2⟩, (ok4 (by simp; omega)).mono (by omega)⟩
  · have l8 : (8 : Nat) ≤ sizeLine := le_sz (by decide)
    have rr : okR (1 + r) = true := okR_of (by omega) (by omega)
    show B__law_dials [some (.sh (.obj 0)), none, none, none, none, none] g = _
    simp only [tx, colDrawn, List.map_cons, List.map_nil] at e2 e4 hcut w2 hdn ⊢
    simp [B__law_dials, e1, e2, e3, e4, hdn, hcut, opSS_lst hts, w2, rr, l8, le_sz]
    exact w4
  · rw [e] at hd1; exact hcn hd1.symm
  · have := congrArg List.length hd1; rw [List.length_map] at this; omega
  · rw [hd1]; exact hca
  · exact hcm p.1 (by rw [← hd1]; exact List.mem_map_of_mem hp)
theorem mFn_run {G : Type} {n m : Nat} {b : M G Fl} {ds : List D} {g g' : G} {d : D} (hl : ds.length = n) (h : (b (ds.map (fun d => some (.sh d)) ++ List.replicate (m - n) none) g).map (fun r => (r.1, r.2.2)) = some (.rt d, g')) : mFn n m b ds g = some (d, g') := by
  obtain ⟨⟨fl, st, g2⟩, e, e2⟩ := Option.map_eq_some_iff.mp h
  simp only [Prod.mk.injEq] at e2
  obtain ⟨rfl, rfl⟩ := e2
  exact mFn_rt hl e
/-! ### schemes -/
def headDrawn : List Str := ["all", "bought", "had", "m", "sold", "t"]
def headNames : List Str := allNames
def headE (p : Str × List Str) : D := .tup [.str p.1, .tup (tx p.2)]
def schE (dl : List (Str × Str)) (hs : List (Str × List Str)) : D := .tup [.tup (dl.map dialE), .tup (hs.map headE)]
structure Heads (dl : List (Str × Str)) (hs : List (Str × List Str)) : Prop where
  ne : hs ≠ []
  few : hs.length ≤ 4
  asc : Asc (tx (hs.map (·.1)))
  name : ∀ p ∈ hs, p.1 ∈ headNames
  cne : ∀ p ∈ hs, p.2 ≠ []
  cfew : ∀ p ∈ hs, p.2.length ≤ 3
  casc : ∀ p ∈ hs, Asc (tx p.2)
  sub : ∀ p ∈ hs, ∀ c ∈ p.2, c ∈ dl.map (·.1)
end DL
namespace DL
open PySem PySem.Spec PyProof.Rows L2
/-! ### dicts with texts as keys -/
def kvE (kvs : List (Str × D)) : List (D × D) := kvs.map fun p => (D.str p.1, p.2)
def tput (kvs : List (Str × D)) (k : Str) (v : D) : List (Str × D) := if (kvs.any fun p => decide (p.1 = k)) = true then kvs.map (fun p => if p.1 = k then (p.1, v) else p) else kvs ++ [(k, v)]
theorem kEq_str (a b : Str) : kEq (.str a) (.str b) = decide (a = b) := by
  simp [kEq, keyD]
theorem dput_str (kvs : List (Str × D)) (k : Str) (v : D) : dput (kvE kvs) (.str k) v = kvE (tput kvs k v) := by
  unfold dput tput
  have h : ((kvE kvs).any fun p => kEq p.1 (.str k)) = kvs.any fun p => decide (p.1 = k) := by
    unfold kvE
    rw [List.any_map]
    congr 1
    funext p
    exact kEq_str p.1 k
  rw [h]
  split
  · unfold kvE
    rw [List.map_map, List.map_map]
    apply List.map_congr_left
    intro p _
    simp only [Function.comp, kEq_str, decide_eq_true_eq]
    split <;> rfl
  · simp [kvE]
theorem tput_keys (kvs : List (Str × D)) (k : Str) (v : D) (x : Str) : x ∈ (tput kvs k v).map (·.1) ↔ x = k ∨ x ∈ kvs.map (·.1) := by
  unfold tput
  split
  · rename_i h
    rw [List.map_map]
    have e : ((·.1) ∘ fun p : Str × D => if p.1 = k then (p.1, v) else p) = (·.1) := by
      funext p; simp only [Function.comp]; split <;> rfl
    rw [e]
    obtain ⟨p, hp, hk⟩ := List.any_eq_true.mp h
    simp only [decide_eq_true_eq] at hk
    exact ⟨.inr, fun h => h.elim (fun e => e ▸ hk ▸ List.mem_map_of_mem hp) id⟩
  · simp [or_comm]
theorem tput_nodup {kvs : List (Str × D)} (h : (kvs.map (·.1)).Nodup) (k : Str) (v : D) : ((tput kvs k v).map (·.1)).Nodup := by
  unfold tput
  split
  · rw [List.map_map]
    have e : ((·.1) ∘ fun p : Str × D => if p.1 = k then (p.1, v) else p) = (·.1) := by
      funext p; simp only [Function.comp]; split <;> rfl
    rw [e]; exact h
  · rename_i hn
    rw [List.map_append, List.nodup_append]
    refine ⟨h, by simp, fun x hx y hy => ?_⟩
    simp at hy
    subst hy
    intro e
    subst e
    apply hn
    obtain ⟨p, hp, e⟩ := List.mem_map.mp hx
    exact List.any_eq_true.mpr ⟨p, hp, by simpa using e⟩
theorem dlook_str {kvs : List (Str × D)} {p : Str × D} (hn : (kvs.map (·.1)).Nodup) (h : p ∈ kvs) : dlook (kvE kvs) (.str p.1) = some p.2 := by
  unfold dlook
  induction kvs with
  | nil => cases h
  | cons q kvs ih =>
    have e0 : kvE (q :: kvs) = (D.str q.1, q.2) :: kvE kvs := rfl
    rw [e0, List.find?_cons]
    simp only [kEq_str]
    rw [List.map_cons, List.nodup_cons] at hn
    rcases List.mem_cons.mp h with e | h
    · subst e; simp
    · have : q.1 ≠ p.1 := fun e => hn.1 (e ▸ List.mem_map_of_mem h)
      simp only [this, decide_false]
      exact ih hn.2 h
theorem textsD_tx (l : List Str) : textsD (tx l) = some l := by
  induction l with
  | nil => rfl
  | cons x l ih => simp [textsD, ih]
theorem msD_tx {l : List Str} (hn : l.Nodup) : msD (tx l) = tx (ssT l) := by
  rw [← ssT_eq]
  refine ssD_of (injT_strs l) ?_ ?_ fun y => (List.mergeSort_perm _ _).mem_iff
  · exact (msD_pw (tx l)).imp fun {a b} h => by simpa [leD] using h
  · rw [msD, (List.mergeSort_perm (tx l) leD).nodup_iff]
    unfold List.Nodup at hn ⊢
    rw [List.pairwise_map]
    exact hn.imp fun h e => h (D.str.inj e)
theorem sortD_eq {kvs : List (Str × D)} (hn : (kvs.map (·.1)).Nodup) (hz : kvs.length < 64) : opSortD (.dct (kvE kvs)) = some (.ow (.lst (tx (ssT (kvs.map (·.1)))))) := by
  have e : (kvE kvs).map (·.1) = tx (kvs.map (·.1)) := by simp [kvE, tx]
  unfold opSortD
  simp only [e, textsD_tx, List.length_map, hz, if_true, msD_tx hn]
@[simp] theorem kvE_len (kvs : List (Str × D)) : (kvE kvs).length = kvs.length := by simp [kvE]
/-! ### _law_scheme -/
/-- what the dict of heads holds -/
structure Hd (cols : List Str) (kvs : List (Str × List Str)) : Prop where
  nd : (kvs.map (·.1)).Nodup
  name : ∀ p ∈ kvs, p.1 ∈ headNames
  cne : ∀ p ∈ kvs, p.2 ≠ []
  cfew : ∀ p ∈ kvs, p.2.length ≤ 3
  casc : ∀ p ∈ kvs, Asc (tx p.2)
  sub : ∀ p ∈ kvs, ∀ c ∈ p.2, c ∈ cols
def hE (kvs : List (Str × List Str)) : List (Str × D) := kvs.map fun p => (p.1, D.tup (tx p.2))
def hput (kvs : List (Str × List Str)) (k : Str) (v : List Str) : List (Str × List Str) := if (kvs.any fun p => decide (p.1 = k)) = true then kvs.map (fun p => if p.1 = k then (p.1, v) else p) else kvs ++ [(k, v)]
theorem hput_eq (kvs : List (Str × List Str)) (k : Str) (v : List Str) : tput (hE kvs) k (.tup (tx v)) = hE (hput kvs k v) := by
  unfold tput hput
  have h : ((hE kvs).any fun p => decide (p.1 = k)) = kvs.any fun p => decide (p.1 = k) := by
    unfold hE; rw [List.any_map]; rfl
  rw [h]
  split
  · unfold hE
    rw [List.map_map, List.map_map]
    apply List.map_congr_left
    intro p _
    simp only [Function.comp]
    split <;> rfl
  · simp [hE]
@[simp] theorem hE_len (kvs : List (Str × List Str)) : (hE kvs).length = kvs.length := by simp [hE]
theorem hE_keys (kvs : List (Str × List Str)) : (hE kvs).map (·.1) = kvs.map (·.1) := by simp [hE]
theorem hput_mem {kvs : List (Str × List Str)} {k : Str} {v : List Str} {p : Str × List Str} (h : p ∈ hput kvs k v) : p ∈ kvs ∨ p = (k, v) := by
  unfold hput at h
  split at h
  · obtain ⟨q, hq, e⟩ := List.mem_map.mp h
    split at e
    · rename_i hk; right; rw [← e, ← hk]
    · left; rw [← e]; exact hq
  · rcases List.mem_append.mp h with h | h
    · exact .inl h
    · simp at h; exact .inr h
theorem hput_len (kvs : List (Str × List Str)) (k : Str) (v : List Str) : (hput kvs k v).length ≤ kvs.length + 1 := by
  unfold hput
  split <;> simp
theorem hput_ne (kvs : List (Str × List Str)) (k : Str) (v : List Str) : hput kvs k v ≠ [] := by
  unfold hput
  split
  · rename_i h
    obtain ⟨p, hp, _⟩ := List.any_eq_true.mp h
    exact fun e => by rw [List.map_eq_nil_iff] at e; rw [e] at hp; cases hp
  · simp
theorem Hd.put {cols : List Str} {kvs : List (Str × List Str)} (h : Hd cols kvs) {k : Str} {v : List Str} (hk : k ∈ headNames) (h1 : v ≠ []) (h2 : v.length ≤ 3) (h3 : Asc (tx v)) (h4 : ∀ c ∈ v, c ∈ cols) : Hd cols (hput kvs k v) := by
  refine ⟨?_, fun p hp => ?_, fun p hp => ?_, fun p hp => ?_, fun p hp => ?_, fun p hp => ?_⟩
  · have := tput_nodup (kvs := hE kvs) (by rw [hE_keys]; exact h.nd) k (.tup (tx v))
    rw [hput_eq, hE_keys] at this
    exact this
  · rcases hput_mem hp with q | rfl
    · exact h.name p q
    · exact hk
  · rcases hput_mem hp with q | rfl
    · exact h.cne p q
    · exact h1
  · rcases hput_mem hp with q | rfl
    · exact h.cfew p q
    · exact h2
  · rcases hput_mem hp with q | rfl
    · exact h.casc p q
    · exact h3
  · rcases hput_mem hp with q | rfl
    · exact h.sub p q
    · exact h4
end DL
namespace DL
open PySem PySem.Spec PyProof.Rows L2
noncomputable abbrev scBody : M Dk Fl := (mSeq (mSet 5 (mSl (mUn opSS (mLc (srcRange1 (mOp opAdd (mC (.int 1)) (mCall F__law_next (mCons (mVar 0) (mCons (mC (.int 4)) mNil))))) (.nm 9) [9] mYes (mCall F__law_one (mCons (mVar 0) (mCons (mVar 1) mNil))))) mNoP (mPart (mC (.int 3))))) (mDPut 4 (mCall F__law_one (mCons (mVar 0) (mCons (mLst (mCons (mC (.str "all")) (mCons (mC (.str "bought")) (mCons (mC (.str "had")) (mCons (mC (.str "m")) (mCons (mC (.str "sold")) (mCons (mC (.str "t")) mNil))))))) mNil))) (mUn opTuple (mVar 5))))
def ShOw (s : Option S) (l : List D) : Prop := s = some (.sh (.lst l)) ∨ s = some (.ow (.lst l))
theorem scBody_ok {n : Nat} {g : Dk} {cols : List Str} {dd : D} {s1 x2 x5 : Option S} {kvs : List (Str × List Str)} (hs : ShOw s1 (tx cols)) (hn : cols ≠ []) (hz : cols.length ≤ 1000) (hk : kvs.length ≤ 1000) (ok : Ok (n + 6) g) :
    ∃ k v g', scBody [some (.sh (.obj 0)), s1, x2, some (.sh dd), some (.ow (.dct (kvE (hE kvs)))), x5, none, none, none, none] g = some (.nx, [some (.sh (.obj 0)), some (.sh (.lst (tx cols))), x2, some (.sh dd), some (.ow (.dct (kvE (hE (hput kvs k v))))), some (.ow (.lst (tx v))), none, none, none, none], g') ∧
      k ∈ headNames ∧ v ≠ [] ∧ v.length ≤ 3 ∧ Asc (tx v) ∧ (∀ c ∈ v, c ∈ cols) ∧ Ok n g' := by
  obtain ⟨r, g1, e1, r0, r1, ok1⟩ := next_ok (m := 4) (n := n + 5) ok (by decide) (by decide)
  obtain ⟨acc, s2, g2, e2, l2, m2, ok2, w2⟩ := draws (st0 := [some (.sh (.obj 0)), s1, x2, some (.sh dd), some (.ow (.dct (kvE (hE kvs)))), x5, none, none, none, none]) (v := 9) (j := 1) (names := tx cols) (K := 4) (n := n + 1) (g := g1) (rangeD 0 (1 + r).toNat) (by rw [rangeD_len]; omega) rfl (hs.elim (fun h => .inl (by rw [h]; rfl)) fun h => .inr (by rw [h]; rfl)) rfl (by simpa using hn) (by simpa using hz) (ok1.mono (by omega))
  have w2 := w2 (rangeD_ne (by omega))
  obtain ⟨ts, rfl, ht⟩ := strs_of m2
  have hts : ts.length < 64 := by rw [List.length_map, rangeD_len] at l2; omega
  have htn : ts ≠ [] := fun e => by rw [e, List.length_map, rangeD_len] at l2; simp at l2; omega
  obtain ⟨v, hv⟩ : ∃ v, v = (ssT ts).take 3 := ⟨_, rfl⟩
  have hcut : cutD (tx (ssT ts)) none (some 3) = tx v := by rw [hv]; exact (cut_to (n := 3)).trans List.map_take.symm
  obtain ⟨kd, g3, e3, hkd, ok3⟩ := one_lst (n := n) (g := g2) (ds := tx headDrawn) ok2 (by decide) (by decide)
  obtain ⟨k, hk1, rfl⟩ := List.mem_map.mp hkd
  have hk2 : ∀ x ∈ headDrawn, x ∈ headNames := by decide +kernel
  refine ⟨k, v, g3, ?_, hk2 k hk1, ?_, ?_, ?_, fun c hc => ?_, ok3⟩
  · have rr : okR (1 + r) = true := okR_of (by omega) (by omega)
    have l6 : (6 : Nat) ≤ sizeLine := le_sz (by decide)
    have lk : kvs.length < sizeLine := by rw [sizeLine_eq]; omega
    simp only [tx, headDrawn, List.map_cons, List.map_nil] at e3
    simp only [List.set_cons_succ, List.set_cons_zero] at w2
    simp [scBody, mDPut, mAt, e1, e2, e3, hcut, opSS_lst hts, w2, rr, l6, le_sz, keyD, dput_str, hput_eq, lk]
  · rw [hv]
    have := ssT_ne htn
    cases h : ssT ts with
    | nil => exact absurd h this
    | cons x r => simp
  · rw [hv, List.length_take]; omega
  · rw [← hcut, show cutD (tx (ssT ts)) none (some 3) = (tx (ssT ts)).take 3 from cut_to (n := 3)]; exact (ssT_asc ts).take 3
  · rw [hv] at hc
    exact ht c (ssT_mem.mp (List.mem_of_mem_take hc))
def hlook (kvs : List (Str × List Str)) (k : Str) : List Str := ((kvs.find? fun p => decide (p.1 = k)).map (·.2)).getD []
theorem hlook_mem {kvs : List (Str × List Str)} {k : Str} (h : k ∈ kvs.map (·.1)) : (k, hlook kvs k) ∈ kvs := by
  obtain ⟨p, hp, rfl⟩ := List.mem_map.mp h
  unfold hlook
  cases e : kvs.find? fun q => decide (q.1 = p.1) with
  | none => exact absurd (List.find?_eq_none.mp e p hp) (by simp)
  | some q =>
    have h1 := List.find?_some e
    have h2 := List.mem_of_find?_eq_some e
    simp only [decide_eq_true_eq] at h1
    show (p.1, q.2) ∈ kvs
    rw [← h1]; exact h2
theorem scheme_ok {n : Nat} {g : Dk} (ok : Ok (n + 60) g) : ∃ dl hs g', F__law_scheme [.obj 0] g = some (schE dl hs, g') ∧ Dials dl ∧ Heads dl hs ∧ Ok n g' := by
  obtain ⟨dl, g1, e1, hd, ok1⟩ := dials_ok (n := n + 40) ok
  obtain ⟨cols, hc⟩ : ∃ cols, cols = dl.map (·.1) := ⟨_, rfl⟩
  obtain ⟨dd, hdd⟩ : ∃ dd, dd = D.tup (dl.map dialE) := ⟨_, rfl⟩
  have hcn : cols ≠ [] := by rw [hc]; simpa using hd.ne
  have hcz : cols.length ≤ 1000 := by rw [hc, List.length_map]; have := hd.few; omega
  obtain ⟨s2, e2, w2⟩ : ∃ st', compM (.tp [.nm 6, .nm 7]) [6, 7] mYes (mVar 6) (dl.map dialE) [] [some (.sh (.obj 0)), none, none, some (.sh dd), some (.ow (.dct [])), none, none, none, none, none] g1 = some (((dl.map dialE).filter fun _ => true).map (fun d => match d with | .tup (x :: _) => x | d => d), st', g1) ∧ wipeS st' [6, 7] = [some (.sh (.obj 0)), none, none, some (.sh dd), some (.ow (.dct [])), none, none, none, none, none] := by
    refine compM_pure _ rfl fun d hdm => ?_
    obtain ⟨p, _, rfl⟩ := List.mem_map.mp hdm
    exact ⟨_, rfl, rfl, rfl, fun _ => rfl⟩
  have i2 : (((dl.map dialE).filter fun _ => true).map (fun d => match d with | .tup (x :: _) => x | d => d)) = tx cols := by
    rw [List.filter_eq_self.mpr (fun _ _ => rfl), List.map_map, hc]
    simp only [tx, List.map_map]
    rfl
  rw [i2] at e2
  obtain ⟨r, g2, e3, r0, r1, ok2⟩ := next_ok (m := 4) (n := n + 39) ok1 (by decide) (by decide)
  obtain ⟨s3, g3, e4, x2, x5, s1, kvs, hst, hs1, hkv, hkl, hke, ok3⟩ := forM_rule (p := .nm 2) (body := scBody) (fun i st g => ∃ x2 x5 s1 kvs, st = [some (.sh (.obj 0)), s1, x2, some (.sh dd), some (.ow (.dct (kvE (hE kvs)))), x5, none, none, none, none] ∧ ShOw s1 (tx cols) ∧ Hd cols kvs ∧ kvs.length ≤ i ∧ (0 < i → kvs ≠ []) ∧ (i ≤ 4 → Ok (n + (4 - i) * 6) g)) (rangeD 0 (1 + r).toNat) 0
    [some (.sh (.obj 0)), some (.ow (.lst (tx cols))), none, some (.sh dd), some (.ow (.dct [])), none, none, none, none, none] g2 ⟨none, none, _, [], rfl, .inr rfl, ⟨by simp, by simp, by simp, by simp, by simp, by simp⟩, Nat.zero_le _, by simp, fun _ => ok2.mono (by omega)⟩ fun k d st g e ⟨x2, x5, s1, kvs, hst, hs1, hkv, hkl, hke, hok⟩ => by
      have hkk : k < (rangeD 0 (1 + r).toNat).length := (List.getElem?_eq_some_iff.mp e).1
      rw [rangeD_len] at hkk
      subst hst
      obtain ⟨key, v, g4, eb, hk1, hv1, hv2, hv3, hv4, okb⟩ := scBody_ok (n := n + (4 - (0 + k + 1)) * 6) (g := g) (cols := cols) (dd := dd) (x2 := some (.sh d)) (x5 := x5) (kvs := kvs) hs1 hcn hcz (by omega) (by have := hok (by omega); exact this.mono (by omega))
      exact ⟨_, rfl, _, g4, eb, some (.sh d), _, _, _, rfl, .inl rfl, hkv.put hk1 hv1 hv2 hv3 hv4, by have := hput_len kvs key v; omega, fun _ => hput_ne _ _ _, fun _ => okb⟩
  rw [rangeD_len] at hkl hke ok3
  subst hst
  obtain ⟨names, hnm⟩ : ∃ names, names = ssT (kvs.map (·.1)) := ⟨_, rfl⟩
  have hnn : ((hE kvs).map (·.1)).Nodup := by rw [hE_keys]; exact hkv.nd
  have hmem : ∀ x ∈ names, x ∈ kvs.map (·.1) := fun x hx => by rw [hnm] at hx; exact ssT_mem.mp hx
  have hlk : ∀ x ∈ names, dlook (kvE (hE kvs)) (.str x) = some (.tup (tx (hlook kvs x))) := fun x hx => by
    have := hlook_mem (hmem x hx)
    exact dlook_str (p := (x, .tup (tx (hlook kvs x)))) hnn (List.mem_map.mpr ⟨_, this, rfl⟩)
  obtain ⟨s5, e5, w5⟩ : ∃ st', compM (.nm 8) [8] mYes (mTup (mCons (mVar 8) (mCons (mOp opIx (mVar 4) (mVar 8)) mNil))) (tx names) [] [some (.sh (.obj 0)), s1, x2, some (.sh dd), some (.ow (.dct (kvE (hE kvs)))), x5, none, none, none, none] g3 = some (((tx names).filter fun _ => true).map (fun d => match d with | .str x => headE (x, hlook kvs x) | d => d), st', g3) ∧ wipeS st' [8] = [some (.sh (.obj 0)), s1, x2, some (.sh dd), some (.ow (.dct (kvE (hE kvs)))), x5, none, none, none, none] := by
    refine compM_pure _ rfl fun d hdm => ?_
    obtain ⟨x, hx, rfl⟩ := List.mem_map.mp hdm
    refine ⟨_, rfl, rfl, rfl, fun _ => ?_⟩
    simp [hlk x hx, headE, le_sz]
  have i5 : (((tx names).filter fun _ => true).map (fun d => match d with | .str x => headE (x, hlook kvs x) | d => d)) = (names.map fun x => (x, hlook kvs x)).map headE := by
    rw [List.filter_eq_self.mpr (fun _ _ => rfl), List.map_map, List.map_map]
    rfl
  rw [i5] at e5
  have hin : ∀ p ∈ names.map (fun x => (x, hlook kvs x)), p ∈ kvs := fun p hp => by
    obtain ⟨x, hx, rfl⟩ := List.mem_map.mp hp
    exact hlook_mem (hmem x hx)
  refine ⟨dl, names.map fun x => (x, hlook kvs x), g3, mFn_run rfl ?_, hd, ⟨?_, ?_, ?_, fun p hp => hkv.name p (hin p hp), fun p hp => hkv.cne p (hin p hp), fun p hp => hkv.cfew p (hin p hp), fun p hp => hkv.casc p (hin p hp), fun p hp => by rw [← hc]; exact hkv.sub p (hin p hp)⟩, (ok3 (by omega)).mono (by omega)⟩
  · have rr : okR (1 + r) = true := okR_of (by omega) (by omega)
    have so : opSortD (.dct (kvE (hE kvs))) = some (.ow (.lst (tx names))) := by
      rw [sortD_eq hnn (by rw [hE_len]; omega), hE_keys, hnm]
    show (B__law_scheme [some (.sh (.obj 0)), none, none, none, none, none, none, none, none, none] g).map _ = _
    rw [hdd] at e2 w2 e4 e5 w5
    simp [B__law_scheme, e1, e2, w2, e3, rr, e4, so, e5, le_sz, schE]
  · intro e
    rw [List.map_eq_nil_iff] at e
    rw [hnm] at e
    exact ssT_ne (l := kvs.map (·.1)) (by simpa using hke (by omega)) e
  · rw [List.length_map, hnm]
    have := ssT_len (kvs.map (·.1))
    rw [List.length_map] at this
    omega
  · rw [List.map_map]
    have : ((·.1) ∘ fun x => (x, hlook kvs x)) = (id : Str → Str) := rfl
    rw [this, List.map_id, hnm]
    exact ssT_asc _
end DL
namespace DL
open PySem PySem.Spec PyProof.Rows L2
/-! ### texts in tuples of texts -/
theorem eqv_str (a b : Str) : PyData.eqv (.str a) (.str b) = decide (a = b) := by
  simp [PyData.eqv]
  rfl
theorem pls_tx : ∀ l : List Str, D.pls (tx l) = true
  | [] => rfl
  | x :: l => by simp only [tx, List.map_cons, D.pls, D.pl, Bool.true_and]; exact pls_tx l
theorem inD_tx (t : Str) (l : List Str) : inD (.str t) (tx l) = decide (t ∈ l) := by
  unfold inD
  rw [List.any_map]
  induction l with
  | nil => simp
  | cons x l ih =>
    rw [List.any_cons, ih]
    simp only [Function.comp, eqD, D.py, eqv_str, List.mem_cons]
    by_cases h : x = t
    · subst h; simp
    · have h' : ¬ t = x := fun e => h e.symm
      simp [h, h']
theorem okIn_tx (t : Str) (l : List Str) : okIn (.str t) (tx l) = true := by
  have : min (PyData.depthAll (D.pys (tx l))) (D.py (.str t)).depth ≤ 100 := Nat.le_trans (Nat.min_le_right _ _) (by simp [D.py, PyData.depth])
  simp [okIn, D.pl, pls_tx, this]
theorem opIn_tup (neg : Bool) (t : Str) (l : List Str) : opIn neg (.str t) (.tup (tx l)) = some (.sh (.bl (neg ^^ decide (t ∈ l)))) := by
  simp only [opIn, okIn_tx, if_true, inD_tx]
theorem opEq_int (a b : Int) : opEq (.int a) (.int b) = some (.sh (.bl (decide (a = b)))) := by
  have : okEq (.int a) (.int b) = true := by simp [okEq, D.pl, D.py, PyData.depth]
  have e : PyData.eqv (.int a) (.int b) = decide (a = b) := by simp [PyData.eqv]; rfl
  simp only [opEq, this, if_true, eqD, D.py, e]
/-! ### frames -/
structure Frame (hs : List (Str × List Str)) (fr : List Str) : Prop where
  ne : fr ≠ []
  asc : Asc (tx fr)
  sub : ∀ x ∈ fr, x ∈ hs.map (·.1)
  few : fr.length ≤ 10
end DL
namespace DL
open PySem PySem.Spec PyProof.Rows L2
/-! ### columns of frames -/
def colsL (hs : List (Str × List Str)) (fr : List Str) : List Str := ssT ((hs.filter fun p => decide (p.1 ∈ fr)).flatMap (·.2))
noncomputable abbrev lcBody : M Dk Fl := (mIf (mTest (mOp (opIn false) (mVar 3) (mVar 1))) (mDrop (mMethL 2 opExt (mVar 4))) mNext)
theorem lawColumns_eq {dl : List (Str × Str)} {hs : List (Str × List Str)} {fr : List Str} {g : Dk} (hh : Heads dl hs) : F__law_columns [schE dl hs, .tup (tx fr)] g = some (.tup (tx (colsL hs fr)), g) := by
  obtain ⟨st, g', e, x3, x4, hst, hg⟩ := forM_rule (p := .tp [.nm 3, .nm 4]) (body := lcBody) (fun i st g' => ∃ x3 x4, st = [some (.sh (schE dl hs)), some (.sh (.tup (tx fr))), some (.ow (.lst (tx (((hs.take i).filter fun p => decide (p.1 ∈ fr)).flatMap (·.2))))), x3, x4] ∧ g' = g) (hs.map headE) 0
    [some (.sh (schE dl hs)), some (.sh (.tup (tx fr))), some (.ow (.lst [])), none, none] g ⟨none, none, rfl, rfl⟩ fun k d st g' e ⟨x3, x4, hst, hg⟩ => by
      subst hg hst
      rw [List.getElem?_map] at e
      obtain ⟨p, ep, rfl⟩ := Option.map_eq_some_iff.mp e
      have hk : k < hs.length := (List.getElem?_eq_some_iff.mp ep).1
      have hp : p ∈ hs := List.mem_of_getElem? ep
      have hlen : (((hs.take k).filter fun p => decide (p.1 ∈ fr)).flatMap (·.2)).length ≤ 3 * k := by
        have : ∀ l : List (Str × List Str), (∀ p ∈ l, p.2.length ≤ 3) → (l.flatMap (·.2)).length ≤ 3 * l.length := by
          intro l
          induction l with
          | nil => intro _; simp
          | cons q l ih =>
            intro h
            rw [List.flatMap_cons, List.length_append, List.length_cons]
            have := h q List.mem_cons_self
            have := ih fun p hp => h p (List.mem_cons_of_mem _ hp)
            omega
        refine Nat.le_trans (this _ fun p hp => hh.cfew p (List.mem_of_mem_take (List.mem_filter.mp hp).1)) ?_
        have := List.length_filter_le (fun p : Str × List Str => decide (p.1 ∈ fr)) (hs.take k)
        rw [List.length_take] at this
        omega
      have hf := hh.few
      have hc := hh.cfew p hp
      have hle : (((hs.take k).filter fun p => decide (p.1 ∈ fr)).flatMap (·.2)).length + p.2.length ≤ sizeLine := le_sz (by omega)
      have key : ∀ fnd : List Str, fnd.length + p.2.length ≤ sizeLine → p.1 ∈ fr → lcBody [some (.sh (schE dl hs)), some (.sh (.tup (tx fr))), some (.ow (.lst (tx fnd))), some (.sh (.str p.1)), some (.sh (.tup (tx p.2)))] g' = some (.nx, [some (.sh (schE dl hs)), some (.sh (.tup (tx fr))), some (.ow (.lst (tx (fnd ++ p.2)))), some (.sh (.str p.1)), some (.sh (.tup (tx p.2)))], g') := fun fnd hl hm => by
        simp [lcBody, opIn_tup, hm, mMethL, mAtL, opExt, hl]
      have key2 : ∀ fnd : List Str, p.1 ∉ fr → lcBody [some (.sh (schE dl hs)), some (.sh (.tup (tx fr))), some (.ow (.lst (tx fnd))), some (.sh (.str p.1)), some (.sh (.tup (tx p.2)))] g' = some (.nx, [some (.sh (schE dl hs)), some (.sh (.tup (tx fr))), some (.ow (.lst (tx fnd))), some (.sh (.str p.1)), some (.sh (.tup (tx p.2)))], g') := fun fnd hm => by
        simp [lcBody, opIn_tup, hm]
      refine ⟨_, rfl, ?_⟩
      rw [show 0 + k + 1 = k + 1 by omega, List.take_add_one, ep, show 0 + k = k by omega]
      by_cases hm : p.1 ∈ fr
      · refine ⟨_, g', key _ hle hm, some (.sh (.str p.1)), some (.sh (.tup (tx p.2))), ?_, rfl⟩
        simp [hm]
      · refine ⟨_, g', key2 _ hm, some (.sh (.str p.1)), some (.sh (.tup (tx p.2))), ?_, rfl⟩
        simp [hm]
  have hz : (((hs.take (0 + (hs.map headE).length)).filter fun p => decide (p.1 ∈ fr)).flatMap (·.2)) = ((hs.filter fun p => decide (p.1 ∈ fr)).flatMap (·.2)) := by
    rw [List.take_of_length_le (by simp)]
  rw [hst, hg, hz] at e
  have hlen : ((hs.filter fun p => decide (p.1 ∈ fr)).flatMap (·.2)).length < 64 := by
    have : ∀ l : List (Str × List Str), (∀ p ∈ l, p.2.length ≤ 3) → (l.flatMap (·.2)).length ≤ 3 * l.length := by
      intro l
      induction l with
      | nil => intro _; simp
      | cons q l ih =>
        intro h
        rw [List.flatMap_cons, List.length_append, List.length_cons]
        have := h q List.mem_cons_self
        have := ih fun p hp => h p (List.mem_cons_of_mem _ hp)
        omega
    have h1 := this (hs.filter fun p => decide (p.1 ∈ fr)) fun p hp => hh.cfew p (List.mem_filter.mp hp).1
    have h2 := List.length_filter_le (fun p : Str × List Str => decide (p.1 ∈ fr)) hs
    have := hh.few
    omega
  refine mFn_run rfl ?_
  show (B__law_columns [some (.sh (schE dl hs)), some (.sh (.tup (tx fr))), none, none, none] g).map _ = _
  have os := opSS_lst hlen
  unfold schE at e ⊢
  simp [B__law_columns, e, os, colsL]
/-! the program's -/
theorem pairsD_heads (hs : List (Str × List Str)) : pairsD (hs.map headE) = some (kvE (hE hs)) := by
  induction hs with
  | nil => rfl
  | cons p hs ih =>
    rw [List.map_cons]
    simp only [headE, pairsD, keyD]
    rw [show (List.map headE hs) = hs.map headE from rfl, ih]
    rfl
theorem merge_nodup (kvs : List (Str × D)) (hn : (kvs.map (·.1)).Nodup) : mergeD (kvE kvs) = kvE kvs := by
  have gen : ∀ (l acc : List (Str × D)), ((acc ++ l).map (·.1)).Nodup → (kvE l).foldl (fun acc p => dput acc p.1 p.2) (kvE acc) = kvE (acc ++ l) := by
    intro l
    induction l with
    | nil => intro acc _; simp [kvE]
    | cons p l ih =>
      intro acc h
      have e : kvE (p :: l) = (D.str p.1, p.2) :: kvE l := rfl
      rw [e, List.foldl_cons]
      have hni : ¬ (acc.any fun q => decide (q.1 = p.1)) = true := fun ha => by
        obtain ⟨q, hq, hqe⟩ := List.any_eq_true.mp ha
        simp only [decide_eq_true_eq] at hqe
        rw [List.map_append, List.map_cons, List.nodup_append] at h
        exact h.2.2 q.1 (List.mem_map_of_mem hq) p.1 List.mem_cons_self hqe
      have e2 : dput (kvE acc) (.str p.1) p.2 = kvE (acc ++ [p]) := by
        rw [dput_str]
        unfold tput
        rw [if_neg hni]
      show List.foldl _ (dput (kvE acc) (.str p.1) p.2) _ = _
      rw [e2, ih (acc ++ [p]) (by rw [List.append_assoc]; exact h), List.append_assoc]
      rfl
  have := gen kvs [] (by simpa using hn)
  simpa [mergeD, kvE] using this
theorem asc_nodup {l : List Str} (h : Asc (tx l)) : l.Nodup := by
  unfold Asc at h
  rw [tx, List.pairwise_map] at h
  exact h.imp fun {a b} hab e => by subst e; rw [ltD_irr] at hab; cases hab
theorem columnsIn_eq {dl : List (Str × Str)} {hs : List (Str × List Str)} {t : Str} {g : Dk} (hh : Heads dl hs) (ht : t ∈ hs.map (·.1)) : F_columns_in [schE dl hs, .str t] g = some (.tup (tx (hlook hs t)), g) := by
  have hnn : ((hE hs).map (·.1)).Nodup := by rw [hE_keys]; exact asc_nodup hh.asc
  have lk : dlook (kvE (hE hs)) (.str t) = some (.tup (tx (hlook hs t))) := dlook_str (p := (t, .tup (tx (hlook hs t)))) hnn (List.mem_map.mpr ⟨_, hlook_mem ht, rfl⟩)
  refine mFn_run rfl ?_
  show (B_columns_in [some (.sh (schE dl hs)), some (.sh (.str t))] g).map _ = _
  unfold schE
  simp [B_columns_in, opDict, pairsD_heads, merge_nodup _ hnn, lk]
def colsP (hs : List (Str × List Str)) (fr : List Str) : List Str := ssT (fr.flatMap (hlook hs))
noncomputable abbrev pcBody : M Dk Fl := (mDrop (mMethL 2 opExt (mCall F_columns_in (mCons (mVar 0) (mCons (mVar 3) mNil)))))
theorem columnsOf_eq {dl : List (Str × Str)} {hs : List (Str × List Str)} {fr : List Str} {g : Dk} (hh : Heads dl hs) (hf : ∀ x ∈ fr, x ∈ hs.map (·.1)) (hz : fr.length ≤ 10) : F_columns_of [schE dl hs, .tup (tx fr)] g = some (.tup (tx (colsP hs fr)), g) := by
  have three : ∀ x ∈ fr, (hlook hs x).length ≤ 3 := fun x hx => hh.cfew _ (hlook_mem (hf x hx))
  have sum : ∀ l : List Str, (∀ x ∈ l, (hlook hs x).length ≤ 3) → (l.flatMap (hlook hs)).length ≤ 3 * l.length := by
    intro l
    induction l with
    | nil => intro _; simp
    | cons q l ih =>
      intro h
      rw [List.flatMap_cons, List.length_append, List.length_cons]
      have := h q List.mem_cons_self
      have := ih fun p hp => h p (List.mem_cons_of_mem _ hp)
      omega
  obtain ⟨st, g', e, x3, hst, hg⟩ := forM_rule (p := .nm 3) (body := pcBody) (fun i st g' => ∃ x3, st = [some (.sh (schE dl hs)), some (.sh (.tup (tx fr))), some (.ow (.lst (tx ((fr.take i).flatMap (hlook hs))))), x3] ∧ g' = g) (tx fr) 0
    [some (.sh (schE dl hs)), some (.sh (.tup (tx fr))), some (.ow (.lst [])), none] g ⟨none, rfl, rfl⟩ fun k d st g' e ⟨x3, hst, hg⟩ => by
      subst hg hst
      rw [List.getElem?_map] at e
      obtain ⟨t, et, rfl⟩ := Option.map_eq_some_iff.mp e
      have hk : k < fr.length := (List.getElem?_eq_some_iff.mp et).1
      have ht : t ∈ fr := List.mem_of_getElem? et
      have hl := sum (fr.take k) fun x hx => three x (List.mem_of_mem_take hx)
      rw [List.length_take] at hl
      have h3 := three t ht
      have hle : ((fr.take k).flatMap (hlook hs)).length + (hlook hs t).length ≤ sizeLine := le_sz (by omega)
      have ci := columnsIn_eq (g := g') hh (hf t ht)
      have key : ∀ fnd : List Str, fnd.length + (hlook hs t).length ≤ sizeLine → pcBody [some (.sh (schE dl hs)), some (.sh (.tup (tx fr))), some (.ow (.lst (tx fnd))), some (.sh (.str t))] g' = some (.nx, [some (.sh (schE dl hs)), some (.sh (.tup (tx fr))), some (.ow (.lst (tx (fnd ++ hlook hs t)))), some (.sh (.str t))], g') := fun fnd hl => by
        simp [pcBody, mMethL, mAtL, ci, opExt, hl]
      rw [show 0 + k + 1 = k + 1 by omega, List.take_add_one, et, show 0 + k = k by omega]
      refine ⟨_, rfl, _, g', key _ hle, some (.sh (.str t)), ?_, rfl⟩
      simp
  have hz2 : ((fr.take (0 + (tx fr).length)).flatMap (hlook hs)) = fr.flatMap (hlook hs) := by rw [List.take_of_length_le (by simp)]
  rw [hst, hg, hz2] at e
  have hlen : (fr.flatMap (hlook hs)).length < 64 := by have := sum fr three; omega
  refine mFn_run rfl ?_
  show (B_columns_of [some (.sh (schE dl hs)), some (.sh (.tup (tx fr))), none, none] g).map _ = _
  have os := opSS_lst hlen
  simp [B_columns_of, e, os, colsP]
theorem cols_same {dl : List (Str × Str)} {hs : List (Str × List Str)} {fr : List Str} (hh : Heads dl hs) (hf : ∀ x ∈ fr, x ∈ hs.map (·.1)) : colsP hs fr = colsL hs fr := by
  refine ssT_ext fun x => ?_
  rw [List.mem_flatMap, List.mem_flatMap]
  constructor
  · rintro ⟨t, ht, hx⟩
    exact ⟨(t, hlook hs t), List.mem_filter.mpr ⟨hlook_mem (hf t ht), by simpa using ht⟩, hx⟩
  · rintro ⟨p, hp, hx⟩
    obtain ⟨hp1, hp2⟩ := List.mem_filter.mp hp
    simp only [decide_eq_true_eq] at hp2
    refine ⟨p.1, hp2, ?_⟩
    have h1 := hlook_mem (kvs := hs) (k := p.1) (List.mem_map_of_mem hp1)
    have nd := asc_nodup hh.asc
    have : hlook hs p.1 = p.2 := by
      have uniq : ∀ (l : List (Str × List Str)), (l.map (·.1)).Nodup → ∀ a b, a ∈ l → b ∈ l → a.1 = b.1 → a = b := by
        intro l
        induction l with
        | nil => intro _ a b ha; cases ha
        | cons q l ih =>
          intro hn a b ha hb hab
          rw [List.map_cons, List.nodup_cons] at hn
          rcases List.mem_cons.mp ha with ea | ha'
          · rcases List.mem_cons.mp hb with eb | hb'
            · rw [ea, eb]
            · rw [ea] at hab
              exact absurd (hab ▸ List.mem_map_of_mem (f := fun x : Str × List Str => x.1) hb') hn.1
          · rcases List.mem_cons.mp hb with eb | hb'
            · rw [eb] at hab
              exact absurd (hab ▸ List.mem_map_of_mem (f := fun x : Str × List Str => x.1) ha') hn.1
            · exact ih hn.2 a b ha' hb' hab
      have := uniq hs nd _ _ h1 hp1 rfl
      exact congrArg Prod.snd this
    rw [this]; exact hx
theorem cols_in {dl : List (Str × Str)} {hs : List (Str × List Str)} {fr : List Str} (hh : Heads dl hs) : ∀ c ∈ colsL hs fr, c ∈ dl.map (·.1) := fun c hc => by
  obtain ⟨p, hp, hx⟩ := List.mem_flatMap.mp (ssT_mem.mp hc)
  exact hh.sub p (List.mem_filter.mp hp).1 c hx
end DL
namespace DL
open PySem PySem.Spec PyProof.Rows L2
section
variable {G : Type} {st : Sl} {g : G} {a b c : M G S} {f f' : D → D → Option S} {s t : S} {d e : D}
def kCh3 (f' : D → D → Option S) (c : M G S) (y : S) (st : Sl) (g : G) : Option S → Option (S × Sl × G)
  | some (.sh (.bl true)) => thn (c st g) (kOpB f' y) .u
  | some (.sh (.bl false)) => some (.sh (.bl false), st, g)
  | _ => none
@[simp] theorem kCh3_t : kCh3 f' c t st g (some (.sh (.bl true))) = thn (c st g) (kOpB f' t) .u := nr rfl
@[simp] theorem kCh3_f : kCh3 f' c t st g (some (.sh (.bl false))) = some (.sh (.bl false), st, g) := nr rfl
@[simp] theorem kCh3_d {P : Prop} [Decidable P] : kCh3 f' c t st g (some (.sh (.bl (decide P)))) = if P then thn (c st g) (kOpB f' t) .u else some (.sh (.bl false), st, g) := by by_cases h : P <;> simp [h]
@[simp] theorem kCh3_n {P : Prop} [Decidable P] : kCh3 f' c t st g (some (.sh (.bl (!decide P)))) = if P then some (.sh (.bl false), st, g) else thn (c st g) (kOpB f' t) .u := by by_cases h : P <;> simp [h]
def kCh2 (f f' : D → D → Option S) (c : M G S) (y : S) (dx : D) (st : Sl) (g : G) : Option D → Option (S × Sl × G)
  | some dy => kCh3 f' c y st g (f dx dy)
  | none => none
@[simp] theorem kCh2_some : kCh2 f f' c t d st g (some e) = kCh3 f' c t st g (f d e) := nr rfl
def kCh1 (f f' : D → D → Option S) (c : M G S) (y : S) (st : Sl) (g : G) : Option D → Option (S × Sl × G)
  | some dx => kCh2 f f' c y dx st g (peek y st)
  | none => none
@[simp] theorem kCh1_some : kCh1 f f' c t st g (some d) = kCh2 f f' c t d st g (peek t st) := nr rfl
def kChB (f f' : D → D → Option S) (c : M G S) (x y : S) (st : Sl) (g : G) : Option (S × Sl × G) := kCh1 f f' c y st g (peek x st)
@[simp] theorem kChB_eq : kChB f f' c s t st g = kCh1 f f' c t st g (peek s st) := nr rfl
def kChA (f f' : D → D → Option S) (b c : M G S) (x : S) (st : Sl) (g : G) : Option (S × Sl × G) := thn (b st g) (kChB f f' c x) .u
@[simp] theorem kChA_eq : kChA f f' b c s st g = thn (b st g) (kChB f f' c s) .u := nr rfl
@[simp] theorem r_chain : mChain f f' a b c st g = thn (a st g) (kChA f f' b c) .u := nr (by
  unfold mChain thn kChA; congr 1; funext x st g
  unfold thn; congr 1; funext y st g
  unfold kChB kCh1 kCh2
  cases peek x st with
  | none => rfl
  | some dx =>
    cases e : peek y st with
    | none => rfl
    | some dy =>
      simp only [Option.bind_some]
      cases f dx dy with
      | none => rfl
      | some z =>
        simp only [Option.bind_some]
        unfold kCh3
        cases z with
        | sh d =>
          cases d with
          | bl b =>
            cases b with
            | false => rfl
            | true =>
              show bnd _ _ = bnd _ _
              congr 1
              funext w st g
              unfold kOpB kOp1 kOp2 kRes
              cases peek y st with
              | none => rfl
              | some d1 => cases peek w st <;> rfl
          | _ => rfl
        | _ => rfl)
end
/-! ### names -/
def LETT : Str := "abcdefghijklmnopqrstuvwxyz"
def signB : D → Bool
  | .str s => subStr s LETT
  | _ => false
def nameB : D → Bool
  | .str x => decide (1 ≤ x.length) && decide (x.length ≤ 6) && (chars x).all signB
  | _ => false
/-! ### data that may be looked at -/
end DL
namespace DL
open PySem PySem.Spec PyProof.Rows L2
/-! ### how a run goes on -/
section
variable {G : Type} {st : Sl} {g : G} {a b c : M G S} {u : M G (List D)} {s t : S} {d e : D} {ds : List D} {i j : Nat} {F : Fn G} {pm : List Nat} {p : Pt}
def kShr (d : D) (st : Sl) (g : G) : Option (S × Sl × G) := some (.sh d, st, g)
@[simp] theorem kShr_eq : kShr d st g = some (.sh d, st, g) := nr rfl
@[simp] theorem r_shr : mShr a st g = thn (mTake a st g) kShr .u := nr rfl
def kCallK (pm : List Nat) (F : Fn G) (ds : List D) (st : Sl) (g : G) : Option (S × Sl × G) := kOut st (F (permD pm ds) g)
@[simp] theorem kCallK_eq : kCallK pm F ds st g = kOut st (F (permD pm ds) g) := nr rfl
@[simp] theorem r_callK : mCallK pm F u st g = thn (u st g) (kCallK pm F) .u := nr (by
  unfold mCallK thn; congr 1; funext ds st g
  unfold kCallK kOut
  cases F (permD pm ds) g <;> rfl)
@[simp] theorem permD_nil : permD [] ds = [] := nr rfl
@[simp] theorem permD_cons : permD (i :: pm) ds = ds.getD i .non :: permD pm ds := nr rfl
def kUnp1 (g : G) : Option Sl → Option (Fl × Sl × G)
  | some st => some (.nx, st, g)
  | none => none
@[simp] theorem kUnp1_some : kUnp1 g (some st) = some (.nx, st, g) := nr rfl
def kUnp (p : Pt) (d : D) (st : Sl) (g : G) : Option (Fl × Sl × G) := kUnp1 g (asg p d st)
@[simp] theorem kUnp_eq : kUnp p d st g = kUnp1 g (asg p d st) := nr rfl
@[simp] theorem r_unp : mUnp p a st g = thn (mTake a st g) (kUnp p) .u := nr (by
  unfold mUnp thn; congr 1; funext d st g
  unfold kUnp kUnp1
  cases asg p d st <;> rfl)
@[simp] theorem asg_nm : asg (.nm i) d st = if i < st.length then some (st.set i (some (.sh d))) else none := by simp only [asg]
def asgK (ps : List Pt) (ds : List D) : Option Sl → Option Sl
  | some st => asgs ps ds st
  | none => none
@[simp] theorem asgK_some {ps : List Pt} : asgK ps ds (some st) = asgs ps ds st := nr rfl
@[simp] theorem asg_tp {ps : List Pt} : asg (.tp ps) (.tup ds) st = asgs ps ds st := by simp only [asg]
@[simp] theorem asgs_nil : asgs [] [] st = some st := by simp only [asgs]
@[simp] theorem asgs_cons {ps : List Pt} : asgs (p :: ps) (d :: ds) st = asgK ps ds (asg p d st) := by
  simp only [asgs]
  cases asg p d st <;> rfl
def kAtL (i : Nat) (st : Sl) (g : G) : Option (Option S) → Option (S × Sl × G)
  | some (some (.ow (.lst _))) => some (.at i, st, g)
  | _ => none
@[simp] theorem kAtL_ow : kAtL i st g (some (some (.ow (.lst ds)))) = some (.at i, st, g) := nr rfl
@[simp] theorem r_atL : (mAtL i : M G S) st g = kAtL i st g st[i]? := nr (by
  unfold mAtL kAtL
  generalize st[i]? = o
  exact match o with
    | none => rfl
    | some none => rfl
    | some (some s) => by
      cases s with
      | ow d => cases d <;> rfl
      | _ => rfl)
def kMl3 (i : Nat) (st : Sl) (g : G) : Option D → Option (S × Sl × G)
  | some e => some (.sh .non, st.set i (some (.ow e)), g)
  | none => none
@[simp] theorem kMl3_some : kMl3 i st g (some e) = some (.sh .non, st.set i (some (.ow e)), g) := nr rfl
def kMl2 (i : Nat) (op : D → D → Option D) (d : D) (st : Sl) (g : G) : Option (Option S) → Option (S × Sl × G)
  | some (some (.ow e)) => kMl3 i st g (op e d)
  | _ => none
@[simp] theorem kMl2_ow {op : D → D → Option D} : kMl2 i op d st g (some (some (.ow e))) = kMl3 i st g (op e d) := nr rfl
def kMl1 (i : Nat) (op : D → D → Option D) (d : D) (st : Sl) (g : G) : Option (S × Sl × G) := kMl2 i op d st g st[i]?
@[simp] theorem kMl1_eq {op : D → D → Option D} : kMl1 i op d st g = kMl2 i op d st g st[i]? := nr rfl
def kMl (i : Nat) (op : D → D → Option D) (a : M G S) (_ : S) (st : Sl) (g : G) : Option (S × Sl × G) := thn (mTake a st g) (kMl1 i op) .u
@[simp] theorem kMl_eq {op : D → D → Option D} : kMl i op a s st g = thn (mTake a st g) (kMl1 i op) .u := nr rfl
@[simp] theorem r_methL {op : D → D → Option D} : mMethL i op a st g = thn (mAtL i st g) (kMl i op a) .u := nr (by
  unfold mMethL thn kMl; congr 1; funext x st g
  unfold thn kMl1; congr 1; funext d st g
  unfold kMl2
  generalize st[i]? = o
  exact match o with
    | none => rfl
    | some none => rfl
    | some (some s) => by
      cases s with
      | ow e => show Option.map _ _ = kMl3 i st g (op e d); cases op e d <;> rfl
      | _ => rfl)
def kZip (ds : List D) (st : Sl) (g : G) : Option ((List D × List S) × Sl × G) := match ds with
  | [.lst xs, .lst ys] => some ((zipD xs ys, [.sh (.lst xs), .sh (.lst ys)]), st, g)
  | [.tup xs, .tup ys] => some ((zipD xs ys, [.sh (.tup xs), .sh (.tup ys)]), st, g)
  | _ => none
@[simp] theorem kZip_ll {xs ys : List D} : kZip [.lst xs, .lst ys] st g = some ((zipD xs ys, [.sh (.lst xs), .sh (.lst ys)]), st, g) := nr rfl
@[simp] theorem kZip_tt {xs ys : List D} : kZip [.tup xs, .tup ys] st g = some ((zipD xs ys, [.sh (.tup xs), .sh (.tup ys)]), st, g) := nr rfl
@[simp] theorem r_zip : srcZip u st g = thn (u st g) kZip .u := nr rfl
def kEnum : D → Sl → G → Option ((List D × List S) × Sl × G)
  | .lst ds, st, g => some ((enumD ds, [.sh (.lst ds)]), st, g)
  | _, _, _ => none
@[simp] theorem kEnum_l : kEnum (.lst ds) st g = some ((enumD ds, [.sh (.lst ds)]), st, g) := nr rfl
@[simp] theorem r_enum : srcEnum a st g = thn (mTake a st g) kEnum .u := nr (by
  unfold srcEnum thn; congr 1; funext d st g
  cases d <;> rfl)
def okR2 (i j : Int) : Bool := decide ((-(2 ^ 62) ≤ i ∧ i < 2 ^ 62) ∧ (-(2 ^ 62) ≤ j ∧ j < 2 ^ 62) ∧ (j - i).toNat ≤ sizeLine)
def kR22 : D → D → Sl → G → Option ((List D × List S) × Sl × G)
  | .int i, .int j, st, g => if okR2 i j = true then some ((rangeD i (j - i).toNat, []), st, g) else none
  | _, _, _, _ => none
@[simp] theorem kR22_int {i j : Int} (h : okR2 i j = true) : kR22 (.int i) (.int j) st g = some ((rangeD i (j - i).toNat, []), st, g) := by simp only [kR22, h, if_true]
def kR21 (b : M G S) (d : D) (st : Sl) (g : G) : Option ((List D × List S) × Sl × G) := thn (mTake b st g) (kR22 d) .u
@[simp] theorem kR21_eq : kR21 b d st g = thn (mTake b st g) (kR22 d) .u := nr rfl
@[simp] theorem r_srcR2 : srcRange2 a b st g = thn (mTake a st g) (kR21 b) .u := nr (by
  unfold srcRange2 thn kR21; congr 1; funext d st g
  unfold thn; congr 1; funext e st g
  cases d <;> cases e <;> simp only [kR22, okR2, decide_eq_true_eq])
end
@[simp] theorem wipeS_nil {st : Sl} : wipeS st [] = st := nr rfl
@[simp] theorem wipeS_cons {st : Sl} {i : Nat} {vs : List Nat} : wipeS st (i :: vs) = (wipeS st vs).set i none := nr rfl
/-- it ends, and so -/
def wp {α β : Type} (r : Option (α × β × Dk)) (Q : α → β → Dk → Prop) : Prop := ∃ a b g, r = some (a, b, g) ∧ Q a b g
theorem wp_some {α β : Type} {a : α} {b : β} {g : Dk} {Q : α → β → Dk → Prop} (h : Q a b g) : wp (some (a, b, g)) Q := ⟨a, b, g, rfl, h⟩
@[simp] theorem wp_some_iff {α β : Type} {a : α} {b : β} {g : Dk} {Q : α → β → Dk → Prop} : wp (some (a, b, g)) Q ↔ Q a b g := ⟨fun ⟨_, _, _, e, h⟩ => by cases e; exact h, wp_some⟩
theorem wp_thn {α β γ : Type} {x : Option (α × Sl × Dk)} {k : α → Sl → Dk → Option (γ × β × Dk)} {u : UnitOf k} {Q : γ → β → Dk → Prop} (h : wp x fun a st g => wp (k a st g) Q) : wp (thn x k u) Q := by
  obtain ⟨a, st, g, rfl, h⟩ := h
  exact h
theorem wp_mono {α β : Type} {r : Option (α × β × Dk)} {Q Q' : α → β → Dk → Prop} (h : wp r Q) (hq : ∀ a b g, Q a b g → Q' a b g) : wp r Q' := by
  obtain ⟨a, b, g, e, h⟩ := h
  exact ⟨a, b, g, e, hq _ _ _ h⟩
theorem mFn_wp {n m : Nat} {b : M Dk Fl} {ds : List D} {g : Dk} {Q : D → Dk → Prop} (hl : ds.length = n) (h : wp (b (ds.map (fun d => some (.sh d)) ++ List.replicate (m - n) none) g) fun fl _ g' => ∃ d, fl = .rt d ∧ Q d g') : ∃ d g', mFn n m b ds g = some (d, g') ∧ Q d g' := by
  obtain ⟨fl, st, g', e, d, rfl, q⟩ := h
  exact ⟨d, g', mFn_rt hl e, q⟩
/-- a comprehension whose parts draw nothing and keep the slots -/
theorem lc_pure1 {α : Type} {src : M Dk (List D × List S)} {p : Pt} {vs : List Nat} {test : M Dk Bool} {elt : M Dk S} {st st1 w0 : Sl} {g : Dk} {cells : List S} (l : List α) (enc : α → D) (f : α → Bool) (h : α → D)
    (hsrc : src st g = some ((l.map enc, cells), st1, g)) (hw : wipeS st1 vs = w0)
    (hs : ∀ a ∈ l, ∃ st2, asg p (enc a) w0 = some st2 ∧ wipeS st2 vs = w0 ∧ test st2 g = some (f a, st2, g) ∧ (f a = true → mTake elt st2 g = some (h a, st2, g))) :
    mLc src p vs test elt st g = some (.ow (.lst ((l.filter f).map h)), w0, g) := by
  have key : ∀ (l : List α) (acc : List D) (st0 : Sl), wipeS st0 vs = w0 → (∀ a ∈ l, ∃ st2, asg p (enc a) w0 = some st2 ∧ wipeS st2 vs = w0 ∧ test st2 g = some (f a, st2, g) ∧ (f a = true → mTake elt st2 g = some (h a, st2, g))) →
      ∃ st', compM p vs test elt (l.map enc) acc st0 g = some (acc ++ (l.filter f).map h, st', g) ∧ wipeS st' vs = w0 := by
    intro l
    induction l with
    | nil => intro acc st0 hw0 _; exact ⟨st0, by simp [compM], hw0⟩
    | cons a l ih =>
      intro acc st0 hw0 hs
      obtain ⟨st2, e1, e2, e3, e4⟩ := hs a List.mem_cons_self
      rw [List.map_cons]
      unfold compM
      rw [hw0, e1, Option.bind_some, e3, bnd_some]
      cases hb : f a with
      | true =>
        rw [if_pos rfl, e4 hb, bnd_some]
        obtain ⟨st', e5, e6⟩ := ih (acc ++ [h a]) st2 e2 fun a ha => hs a (List.mem_cons_of_mem _ ha)
        exact ⟨st', by rw [e5, List.filter_cons_of_pos hb]; simp, e6⟩
      | false =>
        rw [if_neg (by simp)]
        obtain ⟨st', e5, e6⟩ := ih acc st2 e2 fun a ha => hs a (List.mem_cons_of_mem _ ha)
        exact ⟨st', by rw [e5, List.filter_cons_of_neg (by simp [hb])], e6⟩
  obtain ⟨st', e, ew⟩ := key l [] st1 hw hs
  rw [r_lc, hsrc, thn_some]
  simp only [kLc_eq]
  rw [e, thn_some, kLc2_eq, ew, List.nil_append]
/-- all of them -/
theorem lc_all1 {α : Type} {src : M Dk (List D × List S)} {p : Pt} {vs : List Nat} {elt : M Dk S} {st st1 w0 : Sl} {g : Dk} {cells : List S} (l : List α) (enc : α → D) (h : α → D)
    (hsrc : src st g = some ((l.map enc, cells), st1, g)) (hw : wipeS st1 vs = w0)
    (hs : ∀ a ∈ l, ∃ st2, asg p (enc a) w0 = some st2 ∧ wipeS st2 vs = w0 ∧ mTake elt st2 g = some (h a, st2, g)) :
    mLc src p vs mYes elt st g = some (.ow (.lst (l.map h)), w0, g) := by
  have := lc_pure1 (test := mYes) l enc (fun _ => true) h hsrc hw fun a ha => by
    obtain ⟨st2, e1, e2, e3⟩ := hs a ha
    exact ⟨st2, e1, e2, rfl, fun _ => e3⟩
  rw [this, List.filter_eq_self.mpr fun _ _ => rfl]
/-- a comprehension that draws -/
theorem lc_wp1 {src : M Dk (List D × List S)} {p : Pt} {vs : List Nat} {test : M Dk Bool} {elt : M Dk S} {st st1 w0 : Sl} {g g1 : Dk} {items : List D} {cells : List S} {Q : S → Sl → Dk → Prop} (J : Nat → List D → Dk → Prop)
    (hsrc : src st g = some ((items, cells), st1, g1)) (hw : wipeS st1 vs = w0) (h0 : J 0 [] g1)
    (hs : ∀ k d acc g, items[k]? = some d → J k acc g → ∃ st2, asg p d w0 = some st2 ∧ wp (test st2 g) fun b st3 g3 => wipeS st3 vs = w0 ∧ if b = true then wp (mTake elt st3 g3) (fun y st4 g4 => wipeS st4 vs = w0 ∧ J (k + 1) (acc ++ [y]) g4) else J (k + 1) acc g3)
    (hd : ∀ acc g, J items.length acc g → Q (.ow (.lst acc)) w0 g) : wp (mLc src p vs test elt st g) Q := by
  obtain ⟨acc, st', g', e, hj, hw'⟩ := compM_rule (p := p) (vs := vs) (test := test) (elt := elt) (fun i acc st g => J i acc g ∧ wipeS st vs = w0) items 0 [] st1 g1 ⟨h0, hw⟩ fun k d acc st g e ⟨hj, hws⟩ => by
    rw [hws]
    rw [Nat.zero_add] at hj ⊢
    obtain ⟨st2, e1, b, st3, g3, e2, e3, h4⟩ := hs k d acc g e hj
    refine ⟨st2, e1, b, st3, g3, e2, fun hb => ?_, fun hb => ?_⟩
    · rw [if_pos hb] at h4
      obtain ⟨y, st4, g4, e5, e6, e7⟩ := h4
      exact ⟨y, st4, g4, e5, e7, e6⟩
    · rw [if_neg (by simp [hb])] at h4
      exact ⟨h4, e3⟩
  rw [r_lc, hsrc, thn_some]
  simp only [kLc_eq]
  rw [e, thn_some, kLc2_eq, hw']
  exact wp_some (hd _ _ (by rw [Nat.zero_add] at hj; exact hj))
theorem lc_all {α : Type} {src : M Dk (List D × List S)} {p : Pt} {vs : List Nat} {elt : M Dk S} {st w0 : Sl} {g : Dk} {cells : List S} (l : List α) (enc : α → D) (h : α → D)
    (hsrc : src st g = some ((l.map enc, cells), st, g)) (hw : wipeS st vs = w0)
    (hs : ∀ a ∈ l, ∃ st2, asg p (enc a) w0 = some st2 ∧ wipeS st2 vs = w0 ∧ mTake elt st2 g = some (h a, st2, g)) :
    mLc src p vs mYes elt st g = some (.ow (.lst (l.map h)), w0, g) :=
  lc_all1 l enc h hsrc hw hs
theorem lc_wp {src : M Dk (List D × List S)} {p : Pt} {vs : List Nat} {test : M Dk Bool} {elt : M Dk S} {st w0 : Sl} {g g1 : Dk} {items : List D} {cells : List S} {Q : S → Sl → Dk → Prop} (J : Nat → List D → Dk → Prop)
    (hsrc : src st g = some ((items, cells), st, g1)) (hw : wipeS st vs = w0) (h0 : J 0 [] g1)
    (hs : ∀ k d acc g, items[k]? = some d → J k acc g → ∃ st2, asg p d w0 = some st2 ∧ wp (test st2 g) fun b st3 g3 => wipeS st3 vs = w0 ∧ if b = true then wp (mTake elt st3 g3) (fun y st4 g4 => wipeS st4 vs = w0 ∧ J (k + 1) (acc ++ [y]) g4) else J (k + 1) acc g3)
    (hd : ∀ acc g, J items.length acc g → Q (.ow (.lst acc)) w0 g) : wp (mLc src p vs test elt st g) Q :=
  lc_wp1 J hsrc hw h0 hs hd
/-! ### data that may be looked at, and shown -/
def strOk (x : Str) : Bool := x.cps.toList.all fun c => decide (c < 16 ^ 8)
mutual
def okD : D → Bool
  | .non => true
  | .bl _ => true
  | .int i => decide (i.natAbs.log2 < 1920)
  | .str x => strOk x
  | .tup l => okDs l
  | .lst l => okDs l
  | .dct _ => false
  | .dcn _ => false
  | .obj _ => false
def okDs : List D → Bool
  | [] => true
  | d :: l => okD d && okDs l
end
mutual
/-- at least as long as it is shown -/
def wt : D → Nat
  | .non => 4
  | .bl _ => 5
  | .int _ => 2000
  | .str x => 10 * x.length + 2
  | .tup l => wts l + 3
  | .lst l => wts l + 3
  | .dct _ => 0
  | .dcn _ => 0
  | .obj _ => 0
def wts : List D → Nat
  | [] => 0
  | d :: l => wt d + 2 + wts l
end
theorem okDs_iff : ∀ {l : List D}, okDs l = true ↔ ∀ d ∈ l, okD d = true
  | [] => by simp [okDs]
  | d :: l => by simp [okDs, okDs_iff (l := l)]
theorem wts_mem : ∀ {l : List D} {d : D}, d ∈ l → wt d + 2 ≤ wts l
  | e :: l, d, h => by
    simp only [wts]
    rcases List.mem_cons.mp h with rfl | h
    · omega
    · have := wts_mem h; omega
theorem wts_len : ∀ l : List D, 2 * l.length ≤ wts l
  | [] => by simp [wts]
  | d :: l => by have := wts_len l; simp only [wts, List.length_cons]; omega
mutual
theorem okD_pl : ∀ d : D, okD d = true → d.pl = true
  | .non, _ => rfl
  | .bl _, _ => rfl
  | .int _, _ => rfl
  | .str _, _ => rfl
  | .tup l, h => by simp only [okD] at h; simp only [D.pl]; exact okDs_pls l h
  | .lst l, h => by simp only [okD] at h; simp only [D.pl]; exact okDs_pls l h
  | .dct _, h => by simp [okD] at h
  | .dcn _, h => by simp [okD] at h
  | .obj _, h => by simp [okD] at h
theorem okDs_pls : ∀ l : List D, okDs l = true → D.pls l = true
  | [], _ => rfl
  | d :: l, h => by
    simp only [okDs, Bool.and_eq_true] at h
    simp only [D.pls, okD_pl d h.1, okDs_pls l h.2, Bool.and_self]
end
mutual
theorem okD_show : ∀ d : D, okD d = true → d.py.showable = true
  | .non, _ => rfl
  | .bl _, _ => rfl
  | .int _, h => by simpa [okD, D.py, PyData.showable] using h
  | .str _, _ => rfl
  | .tup l, h => by simp only [okD] at h; simp only [D.py, PyData.showable]; exact okDs_shows l h
  | .lst l, h => by simp only [okD] at h; simp only [D.py, PyData.showable]; exact okDs_shows l h
  | .dct _, h => by simp [okD] at h
  | .dcn _, h => by simp [okD] at h
  | .obj _, h => by simp [okD] at h
theorem okDs_shows : ∀ l : List D, okDs l = true → PyData.showableAll (D.pys l) = true
  | [], _ => rfl
  | d :: l, h => by
    simp only [okDs, Bool.and_eq_true] at h
    simp only [D.pys, PyData.showableAll, okD_show d h.1, okDs_shows l h.2, Bool.and_self]
end
theorem listText_le (ts : List Str) : (listText ts).length ≤ piled ts + 2 := by
  unfold listText
  rw [strLen_append]
  have e1 : ((("]" : String) : Str)).length = 1 := rfl
  have e2 : ((("[" : String) : Str)).length = 1 := rfl
  cases ts with
  | nil => show (("[" : String) : Str).length + _ ≤ _; omega
  | cons t r =>
    show (textFrom 1 _ r).length + _ ≤ _
    rw [textFrom_length_pos r 1 _ (by decide), strLen_append, strLen_append, piled_cons]
    have e3 : ((if 0 > 0 then ", " else "" : String) : Str).length = 0 := rfl
    rw [e3]
    omega
theorem tupleText_le (ts : List Str) : (tupleText ts).length ≤ piled ts + 3 := by
  unfold tupleText
  rw [strLen_append, strLen_append]
  have e1 : ((("(" : String) : Str)).length = 1 := rfl
  have e2 : ((if ts.length == 1 then ",)" else ")" : String) : Str).length ≤ 2 := by split <;> decide
  by_cases h : ts = []
  · subst h
    have e3 : (Str.join ", " []).length = 0 := rfl
    omega
  · have := join_length_add ts h
    omega
theorem piled_le : ∀ l : List D, (∀ d ∈ l, d.py.shown.length ≤ wt d) → piled (PyData.shownAll (D.pys l)) ≤ wts l
  | [], _ => by simp [D.pys, PyData.shownAll, piled, wts]
  | d :: l, h => by
    simp only [D.pys, PyData.shownAll, piled_cons, wts]
    have := h d List.mem_cons_self
    have := piled_le l fun d hd => h d (List.mem_cons_of_mem _ hd)
    omega
mutual
theorem shown_le : ∀ d : D, okD d = true → d.py.shown.length ≤ wt d
  | .non, _ => by decide
  | .bl b, _ => by cases b <;> decide
  | .int i, h => by
    simp only [okD, decide_eq_true_eq] at h
    have := int_text_length_le (k := 1920) (by decide) h
    simp only [D.py, PyData.shown, wt]
    show (Str.ofString (toString i)).length ≤ 2000
    rw [PySem.ofString_length]; omega
  | .str x, h => by
    simp only [okD, strOk, List.all_eq_true, decide_eq_true_eq] at h
    simp only [D.py, PyData.shown, wt]
    exact StrLaws.reprText_len x h
  | .tup l, h => by
    simp only [okD] at h
    simp only [D.py, PyData.shown, wt]
    have := tupleText_le (PyData.shownAll (D.pys l))
    have := piled_le l (shown_les l h)
    omega
  | .lst l, h => by
    simp only [okD] at h
    simp only [D.py, PyData.shown, wt]
    have := listText_le (PyData.shownAll (D.pys l))
    have := piled_le l (shown_les l h)
    omega
  | .dct _, h => by simp [okD] at h
  | .dcn _, h => by simp [okD] at h
  | .obj _, h => by simp [okD] at h
theorem shown_les : ∀ l : List D, okDs l = true → ∀ d ∈ l, d.py.shown.length ≤ wt d
  | [], _, d, hd => by cases hd
  | e :: l, h, d, hd => by
    simp only [okDs, Bool.and_eq_true] at h
    have h1 := shown_le e h.1
    have h2 := shown_les l h.2
    rcases List.mem_cons.mp hd with q | q
    · rw [q]; exact h1
    · exact h2 d q
end
/-- fine data: looked at, shown; its weight, its depth -/
structure Fi (n k : Nat) (d : D) : Prop where
  ok : okD d = true
  w : wt d ≤ n
  dp : d.py.depth ≤ k
theorem Fi.mono {n k n' k' : Nat} {d : D} (h : Fi n k d) (h1 : n ≤ n') (h2 : k ≤ k') : Fi n' k' d := ⟨h.ok, Nat.le_trans h.w h1, Nat.le_trans h.dp h2⟩
theorem Fi.repr {n k : Nat} {d : D} (h : Fi n k d) (hn : n ≤ 10000000) (hk : k ≤ 100) : opRepr d = some (.sh (.str d.py.shown)) := by
  have h1 := shown_le d h.ok
  have h2 := h.w
  have h3 := h.dp
  have : okRepr d = true := by
    simp only [okRepr, Bool.and_eq_true, decide_eq_true_eq]
    exact ⟨⟨⟨okD_pl d h.ok, okD_show d h.ok⟩, by omega⟩, by rw [sizeLine_eq]; omega⟩
  simp only [opRepr, this, if_true]
theorem depthAll_le {l : List D} {k : Nat} (h : ∀ d ∈ l, d.py.depth ≤ k) : PyData.depthAll (D.pys l) ≤ k := by
  induction l with
  | nil => simp [D.pys, PyData.depthAll]
  | cons d l ih =>
    simp only [D.pys, PyData.depthAll]
    have := h d List.mem_cons_self
    have := ih fun d hd => h d (List.mem_cons_of_mem _ hd)
    omega
theorem Fi.tup {n k : Nat} {l : List D} (h : ∀ d ∈ l, okD d = true ∧ d.py.depth ≤ k) (hw : wts l + 3 ≤ n) : Fi n (k + 1) (.tup l) :=
  ⟨by simp only [okD]; exact okDs_iff.mpr fun d hd => (h d hd).1, by simpa only [wt] using hw, by simp only [D.py, PyData.depth]; have := depthAll_le fun d hd => (h d hd).2; omega⟩
theorem Fi.lst {n k : Nat} {l : List D} (h : ∀ d ∈ l, okD d = true ∧ d.py.depth ≤ k) (hw : wts l + 3 ≤ n) : Fi n (k + 1) (.lst l) :=
  ⟨by simp only [okD]; exact okDs_iff.mpr fun d hd => (h d hd).1, by simpa only [wt] using hw, by simp only [D.py, PyData.depth]; have := depthAll_le fun d hd => (h d hd).2; omega⟩
theorem Fi.in_tup {n k : Nat} {l : List D} (h : Fi n k (.tup l)) {d : D} (hd : d ∈ l) : Fi n (k - 1) d := by
  obtain ⟨h1, h2, h3⟩ := h
  simp only [okD] at h1
  simp only [wt] at h2
  simp only [D.py, PyData.depth] at h3
  exact ⟨okDs_iff.mp h1 d hd, by have := wts_mem hd; omega, by have := depth_mem (n := k - 1) (by omega) d hd; exact this⟩
theorem Fi.nobj {n k : Nat} {d : D} (h : Fi n k d) : notObj d = true := by
  have := h.ok
  cases d with
  | obj _ => simp [okD] at this
  | dcn _ => simp [okD] at this
  | _ => rfl
theorem Fi.len {n k : Nat} {l : List D} (h : Fi n k (.tup l)) : 2 * l.length ≤ n := by
  have h2 := h.w
  simp only [wt] at h2
  have := wts_len l
  omega
theorem Fi.str {n k : Nat} {d : D} (h : Fi n k d) : ∀ x, d = .str x → 10 * x.length ≤ n := fun x e => by
  subst e
  have h2 := h.w
  simp only [wt] at h2
  omega
end DL
namespace DL
open PySem PySem.Spec PyProof.Rows L2
/-! ### typed runs -/
abbrev TM (α : Type) := Dk → Option (α × Dk)
section
variable {α β γ δ : Type}
def pureT (a : α) : TM α := fun g => some (a, g)
def bindT (m : TM α) (k : α → TM β) : TM β := fun g => (m g).bind fun p => k p.1 p.2
def optT (o : Option α) : TM α := fun g => o.map fun a => (a, g)
def failT : TM α := fun _ => none
@[simp] theorem bindT_pure (a : α) (k : α → TM β) : bindT (pureT a) k = k a := rfl
@[simp] theorem opt_some (a : α) : optT (some a) = pureT a := rfl
@[simp] theorem opt_none : (optT none : TM α) = failT := rfl
@[simp] theorem bind_fail (k : α → TM β) : bindT (failT : TM α) k = failT := rfl
@[simp] theorem bindT_ret (m : TM α) : bindT m pureT = m := by
  funext g
  unfold bindT pureT
  cases m g <;> rfl
@[simp] theorem bindT_bind (m : TM α) (k : α → TM β) (l : β → TM γ) : bindT (bindT m k) l = bindT m fun a => bindT (k a) l := by
  funext g
  unfold bindT
  cases m g <;> rfl
@[simp] theorem pure_run (a : α) (g : Dk) : pureT a g = some (a, g) := rfl
theorem bind_eq {m : TM α} {k : α → TM β} {g : Dk} {r : β × Dk} (h : bindT m k g = some r) : ∃ a g1, m g = some (a, g1) ∧ k a g1 = some r := by
  unfold bindT at h
  cases e : m g with
  | none => rw [e] at h; cases h
  | some p => rw [e] at h; exact ⟨p.1, p.2, rfl, h⟩
theorem pure_eq {a : α} {g : Dk} {b : α} {g' : Dk} (h : pureT a g = some (b, g')) : a = b ∧ g = g' := by
  cases h; exact ⟨rfl, rfl⟩
theorem opt_eq {o : Option α} {g : Dk} {b : α} {g' : Dk} (h : optT o g = some (b, g')) : o = some b ∧ g = g' := by
  unfold optT at h
  cases o with
  | none => cases h
  | some a => cases h; exact ⟨rfl, rfl⟩
/-- it ends, and so -/
def wpT (m : TM α) (g : Dk) (Q : α → Dk → Prop) : Prop := ∃ a g', m g = some (a, g') ∧ Q a g'
theorem wpT_pure {a : α} {g : Dk} {Q : α → Dk → Prop} (h : Q a g) : wpT (pureT a) g Q := ⟨a, g, rfl, h⟩
theorem wpT_bind {m : TM α} {k : α → TM β} {g : Dk} {Q : β → Dk → Prop} (h : wpT m g fun a g => wpT (k a) g Q) : wpT (bindT m k) g Q := by
  obtain ⟨a, g1, e1, b, g2, e2, q⟩ := h
  exact ⟨b, g2, by unfold bindT; rw [e1]; exact e2, q⟩
theorem wpT_mono {m : TM α} {g : Dk} {Q Q' : α → Dk → Prop} (h : wpT m g Q) (hq : ∀ a g, Q a g → Q' a g) : wpT m g Q' := let ⟨a, g', e, q⟩ := h; ⟨a, g', e, hq _ _ q⟩
/-- encodings that tell their datum -/
class Inj (e : α → D) : Prop where
  inj : ∀ a b, e a = e b → a = b
open Classical in
@[irreducible] noncomputable def unE (e : α → D) (d : D) : Option α := if h : ∃ a, e a = d then some h.choose else none
theorem unE_ok {e : α → D} {d : D} {a : α} (h : unE e d = some a) : e a = d := by
  unfold unE at h
  split at h
  · rename_i hx; cases h; exact hx.choose_spec
  · cases h
@[simp] theorem unE_eq {e : α → D} [Inj e] {a : α} : unE e (e a) = some a := by
  unfold unE
  have hx : ∃ b, e b = e a := ⟨a, rfl⟩
  rw [dif_pos hx]
  exact congrArg some (Inj.inj _ _ hx.choose_spec)
@[irreducible] noncomputable def callT (F : Fn Dk) (e : α → D) (ds : List D) : TM α := fun g => (F ds g).bind fun p => (unE e p.1).map fun a => (a, p.2)
theorem callT_ok {F : Fn Dk} {e : α → D} {ds : List D} {g g' : Dk} {a : α} (h : callT F e ds g = some (a, g')) : F ds g = some (e a, g') := by
  unfold callT at h
  cases hf : F ds g with
  | none => rw [hf] at h; cases h
  | some p =>
    rw [hf] at h
    simp only [Option.bind_some] at h
    cases hu : unE e p.1 with
    | none => rw [hu] at h; cases h
    | some b => rw [hu] at h; cases h; rw [unE_ok hu]
theorem callT_run {F : Fn Dk} {e : α → D} [Inj e] {ds : List D} {g g' : Dk} {a : α} (h : F ds g = some (e a, g')) : callT F e ds g = some (a, g') := by
  unfold callT
  rw [h]
  simp
theorem callT_pure {F : Fn Dk} {e : α → D} [Inj e] {ds : List D} {a : α} (h : ∀ g, F ds g = some (e a, g)) : callT F e ds = pureT a := funext fun g => callT_run (h g)
theorem callT_wp {F : Fn Dk} {e : α → D} [Inj e] {ds : List D} {g : Dk} {Q : α → Dk → Prop} (h : ∃ a g', F ds g = some (e a, g') ∧ Q a g') : wpT (callT F e ds) g Q := let ⟨a, g', e, q⟩ := h; ⟨a, g', callT_run e, q⟩
/-! ### encodings -/
def eT (e : α → D) (l : List α) : D := .tup (l.map e)
def eL (e : α → D) (l : List α) : D := .lst (l.map e)
def eP (e : α → D) (f : β → D) (p : α × β) : D := .tup [e p.1, f p.2]
def eP3 (e : α → D) (f : β → D) (h : γ → D) (p : α × β × γ) : D := .tup [e p.1, f p.2.1, h p.2.2]
def eP4 (e : α → D) (f : β → D) (h : γ → D) (j : δ → D) (p : α × β × γ × δ) : D := .tup [e p.1, f p.2.1, h p.2.2.1, j p.2.2.2]
def eO (e : α → D) : Option α → D
  | none => .non
  | some a => e a
def eA (d : D) : D := d
def eN (_ : Unit) : D := .non
theorem map_inj' {e : α → D} [Inj e] : ∀ {l m : List α}, l.map e = m.map e → l = m
  | [], [], _ => rfl
  | [], _ :: _, h => by simp at h
  | _ :: _, [], h => by simp at h
  | a :: l, b :: m, h => by
    simp only [List.map_cons, List.cons.injEq] at h
    rw [Inj.inj _ _ h.1, map_inj' h.2]
instance : Inj D.int := ⟨fun _ _ h => by cases h; rfl⟩
instance : Inj D.str := ⟨fun _ _ h => by cases h; rfl⟩
instance : Inj D.bl := ⟨fun _ _ h => by cases h; rfl⟩
instance : Inj eA := ⟨fun _ _ h => h⟩
instance : Inj eN := ⟨fun _ _ _ => rfl⟩
instance {e : α → D} [Inj e] : Inj (eT e) := ⟨fun a b h => by unfold eT at h; exact map_inj' (D.tup.inj h)⟩
instance {e : α → D} [Inj e] : Inj (eL e) := ⟨fun a b h => by unfold eL at h; exact map_inj' (D.lst.inj h)⟩
instance {e : α → D} {f : β → D} [Inj e] [Inj f] : Inj (eP e f) := ⟨fun a b h => by
  unfold eP at h
  simp only [D.tup.injEq, List.cons.injEq, and_true] at h
  exact Prod.ext (Inj.inj _ _ h.1) (Inj.inj _ _ h.2)⟩
instance {e : α → D} {f : β → D} {j : γ → D} [Inj e] [Inj f] [Inj j] : Inj (eP3 e f j) := ⟨fun a b h => by
  unfold eP3 at h
  simp only [D.tup.injEq, List.cons.injEq, and_true] at h
  exact Prod.ext (Inj.inj _ _ h.1) (Prod.ext (Inj.inj _ _ h.2.1) (Inj.inj _ _ h.2.2))⟩
instance {e : α → D} {f : β → D} {j : γ → D} {k : δ → D} [Inj e] [Inj f] [Inj j] [Inj k] : Inj (eP4 e f j k) := ⟨fun a b h => by
  unfold eP4 at h
  simp only [D.tup.injEq, List.cons.injEq, and_true] at h
  exact Prod.ext (Inj.inj _ _ h.1) (Prod.ext (Inj.inj _ _ h.2.1) (Prod.ext (Inj.inj _ _ h.2.2.1) (Inj.inj _ _ h.2.2.2)))⟩
/-- encodings that never are None -/
class NotN (e : α → D) : Prop where
  nn : ∀ a, opIs true (e a) .non = some (.sh (.bl true))
instance : NotN D.int := ⟨fun _ => rfl⟩
instance : NotN D.str := ⟨fun _ => rfl⟩
instance : NotN D.bl := ⟨fun _ => rfl⟩
instance {e : α → D} : NotN (eT e) := ⟨fun _ => rfl⟩
instance {e : α → D} : NotN (eL e) := ⟨fun _ => rfl⟩
instance {e : α → D} {f : β → D} : NotN (eP e f) := ⟨fun _ => rfl⟩
instance {e : α → D} {f : β → D} {j : γ → D} : NotN (eP3 e f j) := ⟨fun _ => rfl⟩
instance {e : α → D} {f : β → D} {j : γ → D} {k : δ → D} : NotN (eP4 e f j k) := ⟨fun _ => rfl⟩
theorem NotN.ne {e : α → D} [NotN e] {a : α} (h : e a = .non) : False := by
  have := NotN.nn (e := e) a
  rw [h] at this
  simp [opIs, isNon] at this
instance {e : α → D} [Inj e] [NotN e] : Inj (eO e) := ⟨fun a b h => by
  cases a with
  | none => cases b with
    | none => rfl
    | some b => exact (NotN.ne (e := e) h.symm).elim
  | some a => cases b with
    | none => exact (NotN.ne (e := e) h).elim
    | some b => rw [Inj.inj (e := e) _ _ h]⟩
/-! ### what slots hold -/
def Sat (Γ st : Sl) : Prop := st.length = Γ.length ∧ ∀ (i : Nat) s, Γ[i]? = some (some s) → st[i]? = some (some s)
variable {Γ Γ1 Γ2 Γ3 st st1 st2 : Sl} {i j k : Nat} {s t : S} {d : D} {g g' : Dk}
theorem Sat.refl : Sat Γ Γ := ⟨rfl, fun _ _ h => h⟩
theorem Sat.get (h : Sat Γ st) (e : Γ[i]? = some (some s)) : st[i]? = some (some s) := h.2 i s e
theorem Sat.set (h : Sat Γ st) (x : Option S) : Sat (Γ.set i x) (st.set i x) := by
  refine ⟨by rw [List.length_set, List.length_set]; exact h.1, fun j s e => ?_⟩
  by_cases hj : i = j
  · subst hj
    have hl : i < Γ.length := by have := (List.getElem?_eq_some_iff.mp e).1; rwa [List.length_set] at this
    rw [List.getElem?_set_self hl] at e
    rw [List.getElem?_set_self (by rw [h.1]; exact hl)]
    exact e
  · rw [List.getElem?_set_ne hj] at e ⊢
    exact h.2 j s e
theorem Sat.wipe : ∀ {vs : List Nat} {Γ st : Sl}, Sat Γ st → Sat (wipeS Γ vs) (wipeS st vs)
  | [], _, _, h => h
  | i :: vs, Γ, st, h => by rw [wipeS_cons, wipeS_cons]; exact (Sat.wipe h).set none
theorem Sat.trans (h : Sat Γ Γ1) (h1 : Sat Γ1 st) : Sat Γ st := ⟨by rw [h1.1, h.1], fun i s e => h1.2 i s (h.2 i s e)⟩
/-- weaker -/
inductive Wk : Sl → Sl → Prop
  | nil : Wk [] []
  | n {a b : Sl} {x : Option S} : Wk a b → Wk (none :: a) (x :: b)
  | s {a b : Sl} {x : Option S} : Wk a b → Wk (x :: a) (x :: b)
theorem Wk.sat {a b : Sl} (h : Wk a b) : Sat a b := by
  induction h with
  | nil => exact Sat.refl
  | n _ ih =>
    refine ⟨by simp [ih.1], fun i s e => ?_⟩
    cases i with
    | zero => cases e
    | succ i => exact ih.2 i s e
  | s _ ih =>
    refine ⟨by simp [ih.1], fun i s e => ?_⟩
    cases i with
    | zero => exact e
    | succ i => exact ih.2 i s e
mutual
theorem Sat.asg : ∀ (p : Pt) (d : D) {Γ Γ1 st : Sl}, Sat Γ st → asg p d Γ = some Γ1 → ∃ st1, DL.asg p d st = some st1 ∧ Sat Γ1 st1
  | .nm i, d, Γ, Γ1, st, h, e => by
    simp only [DL.asg] at e ⊢
    split at e
    · rename_i hi
      cases e
      rw [if_pos (by rw [h.1]; exact hi)]
      exact ⟨_, rfl, h.set _⟩
    · cases e
  | .tp ps, d, Γ, Γ1, st, h, e => by
    simp only [DL.asg] at e ⊢
    split at e
    · exact Sat.asgs ps _ h e
    · cases e
theorem Sat.asgs : ∀ (ps : List Pt) (ds : List D) {Γ Γ1 st : Sl}, Sat Γ st → asgs ps ds Γ = some Γ1 → ∃ st1, DL.asgs ps ds st = some st1 ∧ Sat Γ1 st1
  | [], [], Γ, Γ1, st, h, e => by simp only [DL.asgs] at e ⊢; cases e; exact ⟨_, rfl, h⟩
  | p :: ps, d :: ds, Γ, Γ1, st, h, e => by
    simp only [DL.asgs] at e ⊢
    obtain ⟨Γm, e1, e2⟩ := Option.bind_eq_some_iff.mp e
    obtain ⟨s1, f1, h1⟩ := Sat.asg p d h e1
    rw [f1, Option.bind_some]
    exact Sat.asgs ps ds h1 e2
  | [], _ :: _, _, _, _, _, e => by simp [DL.asgs] at e
  | _ :: _, [], _, _, _, _, e => by simp [DL.asgs] at e
end
/-! ### judgements -/
def sOf (ow : Bool) (d : D) : S := match ow with
  | true => .ow d
  | false => .sh d
/-- e gives a value of its own -/
def EN (Γ : Sl) (e : M Dk S) (m : TM α) (ow : Bool) (φ : α → D) (Γ' : Sl) : Prop := ∀ st g a g', Sat Γ st → m g = some (a, g') → ∃ st', e st g = some (sOf ow (φ a), st', g') ∧ Sat Γ' st'
/-- e's value may be looked at -/
def EP (Γ : Sl) (e : M Dk S) (m : TM α) (φ : α → D) (Γ' : Sl) : Prop := ∀ st g a g', Sat Γ st → m g = some (a, g') → ∃ s st', e st g = some (s, st', g') ∧ Sat Γ' st' ∧ ∀ st2, Sat Γ' st2 → peek s st2 = some (φ a)
/-- e's value may be kept -/
def ET (Γ : Sl) (e : M Dk S) (m : TM α) (φ : α → D) (Γ' : Sl) : Prop := ∀ st g a g', Sat Γ st → m g = some (a, g') → ∃ st', mTake e st g = some (φ a, st', g') ∧ Sat Γ' st'
def EB (Γ : Sl) (t : M Dk Bool) (m : TM Bool) (Γ' : Sl) : Prop := ∀ st g a g', Sat Γ st → m g = some (a, g') → ∃ st', t st g = some (a, st', g') ∧ Sat Γ' st'
def EA (Γ : Sl) (u : M Dk (List D)) (m : TM α) (φ : α → List D) (Γ' : Sl) : Prop := ∀ st g a g', Sat Γ st → m g = some (a, g') → ∃ st', u st g = some (φ a, st', g') ∧ Sat Γ' st'
/-- what is gone through -/
def EI (Γ : Sl) (src : M Dk (List D × List S)) (m : TM (List α)) (φ : α → D) (Γ' : Sl) : Prop := ∀ st g a g', Sat Γ st → m g = some (a, g') → ∃ c st', src st g = some ((a.map φ, c), st', g') ∧ Sat Γ' st'
variable {ow : Bool} {e e1 e2 : M Dk S} {ma : TM α} {mb : TM β} {mc : TM γ} {ea : α → D} {eb : β → D} {ec : γ → D} {x : α} {y : β} {z : γ}
theorem EN.pk (h : EN Γ e ma ow ea Γ1) : EP Γ e ma ea Γ1 := fun st g a g' hs hm => by
  obtain ⟨st', e1, h1⟩ := h st g a g' hs hm
  exact ⟨_, st', e1, h1, fun st2 _ => by cases ow <;> rfl⟩
theorem EN.tk (h : EN Γ e ma ow ea Γ1) : ET Γ e ma ea Γ1 := fun st g a g' hs hm => by
  obtain ⟨st', e1, h1⟩ := h st g a g' hs hm
  refine ⟨st', ?_, h1⟩
  unfold mTake
  rw [e1, bnd_some]
  cases ow <;> rfl
theorem en_c (ea : α → D) (x : α) (h : ea x = d) : EN Γ (mC d) (pureT x) false ea Γ := fun st g a g' hs hm => by
  obtain ⟨rfl, rfl⟩ := pure_eq hm
  exact ⟨st, by rw [h]; rfl, hs⟩
theorem en_var (ea : α → D) (x : α) (h : Γ[i]? = some (some (.sh (ea x)))) : EN Γ (mVar i) (pureT x) false ea Γ := fun st g a g' hs hm => by
  obtain ⟨rfl, rfl⟩ := pure_eq hm
  exact ⟨st, by unfold mVar; rw [hs.get h]; rfl, hs⟩
theorem en_shr (h : ET Γ e ma ea Γ1) : EN Γ (mShr e) ma false ea Γ1 := fun st g a g' hs hm => by
  obtain ⟨st', e1, h1⟩ := h st g a g' hs hm
  exact ⟨st', by unfold mShr; rw [e1]; rfl, h1⟩
theorem en_op {op : D → D → Option S} {f : α → β → Option γ} (ha : EP Γ e1 ma ea Γ1) (hb : EP Γ1 e2 mb eb Γ1) (ho : ∀ x y z, f x y = some z → op (ea x) (eb y) = some (sOf ow (ec z))) : EN Γ (mOp op e1 e2) (bindT ma fun x => bindT mb fun y => optT (f x y)) ow ec Γ1 := fun st g a g' hs hm => by
  obtain ⟨x, g1, m1, hm⟩ := bind_eq hm
  obtain ⟨y, g2, m2, hm⟩ := bind_eq hm
  obtain ⟨ho', rfl⟩ := opt_eq hm
  obtain ⟨s1, st1, h1, hs1, p1⟩ := ha st g x g1 hs m1
  obtain ⟨s2, st2, h2, hs2, p2⟩ := hb st1 g1 y g2 hs1 m2
  refine ⟨st2, ?_, hs2⟩
  unfold mOp
  rw [h1, bnd_some, h2, bnd_some, p1 _ hs2, Option.bind_some, p2 _ hs2, Option.bind_some, ho x y a ho']
  rfl
theorem en_opV {op : D → D → Option S} (ha : EP Γ e1 (pureT x) ea Γ1) (hb : EP Γ1 e2 (pureT y) eb Γ1) (ho : op (ea x) (eb y) = some (sOf ow (ec z))) : EN Γ (mOp op e1 e2) (pureT z) ow ec Γ1 := fun st g a g' hs hm => by
  obtain ⟨rfl, rfl⟩ := pure_eq hm
  obtain ⟨s1, st1, h1, hs1, p1⟩ := ha st g x g hs rfl
  obtain ⟨s2, st2, h2, hs2, p2⟩ := hb st1 g y g hs1 rfl
  refine ⟨st2, ?_, hs2⟩
  unfold mOp
  rw [h1, bnd_some, h2, bnd_some, p1 _ hs2, Option.bind_some, p2 _ hs2, Option.bind_some, ho]
  rfl
theorem en_un {un : D → Option S} {f : α → Option γ} (ha : EP Γ e1 ma ea Γ1) (ho : ∀ x z, f x = some z → un (ea x) = some (sOf ow (ec z))) : EN Γ (mUn un e1) (bindT ma fun x => optT (f x)) ow ec Γ1 := fun st g a g' hs hm => by
  obtain ⟨x, g1, m1, hm⟩ := bind_eq hm
  obtain ⟨ho', rfl⟩ := opt_eq hm
  obtain ⟨s1, st1, h1, hs1, p1⟩ := ha st g x g1 hs m1
  refine ⟨st1, ?_, hs1⟩
  unfold mUn
  rw [h1, bnd_some, p1 _ hs1, Option.bind_some, ho x a ho']
  rfl
theorem en_unV {un : D → Option S} (ha : EP Γ e1 (pureT x) ea Γ1) (ho : un (ea x) = some (sOf ow (ec z))) : EN Γ (mUn un e1) (pureT z) ow ec Γ1 := fun st g a g' hs hm => by
  obtain ⟨rfl, rfl⟩ := pure_eq hm
  obtain ⟨s1, st1, h1, hs1, p1⟩ := ha st g x g hs rfl
  refine ⟨st1, ?_, hs1⟩
  unfold mUn
  rw [h1, bnd_some, p1 _ hs1, Option.bind_some, ho]
  rfl
theorem EN.cast (ha : EN Γ e ma ow ea Γ1) : EN Γ e (bindT ma fun a => optT (unE ec (ea a))) ow ec Γ1 := fun st g a g' hs hm => by
  obtain ⟨x, g1, m1, hm⟩ := bind_eq hm
  obtain ⟨ho, rfl⟩ := opt_eq hm
  obtain ⟨st', h1, h2⟩ := ha st g x g1 hs m1
  exact ⟨st', by rw [h1, unE_ok ho], h2⟩
theorem EP.cast (ha : EP Γ e ma ea Γ1) : EP Γ e (bindT ma fun a => optT (unE ec (ea a))) ec Γ1 := fun st g a g' hs hm => by
  obtain ⟨x, g1, m1, hm⟩ := bind_eq hm
  obtain ⟨ho, rfl⟩ := opt_eq hm
  obtain ⟨s1, st', h1, h2, h3⟩ := ha st g x g1 hs m1
  exact ⟨s1, st', h1, h2, by rw [unE_ok ho]; exact h3⟩
theorem ET.cast (ha : ET Γ e ma ea Γ1) : ET Γ e (bindT ma fun a => optT (unE ec (ea a))) ec Γ1 := fun st g a g' hs hm => by
  obtain ⟨x, g1, m1, hm⟩ := bind_eq hm
  obtain ⟨ho, rfl⟩ := opt_eq hm
  obtain ⟨st', h1, h2⟩ := ha st g x g1 hs m1
  exact ⟨st', by rw [h1, unE_ok ho], h2⟩
/-! tests -/
variable {t t1 t2 : M Dk Bool} {m m1 m2 : TM Bool} {b b1 b2 : Bool}
theorem eb_test {mt : TM Bool} (h : EN Γ e mt false D.bl Γ1) : EB Γ (mTest e) mt Γ1 := fun st g a g' hs hm => by
  obtain ⟨st', h1, h2⟩ := h st g a g' hs hm
  exact ⟨st', by unfold mTest; rw [h1]; rfl, h2⟩
theorem eb_not (h : EB Γ t m Γ1) : EB Γ (mNot t) (bindT m fun b => pureT (!b)) Γ1 := fun st g a g' hs hm => by
  obtain ⟨b, g1, m1, hm⟩ := bind_eq hm
  obtain ⟨rfl, rfl⟩ := pure_eq hm
  obtain ⟨st', h1, h2⟩ := h st g b g1 hs m1
  exact ⟨st', by unfold mNot; rw [h1]; rfl, h2⟩
theorem eb_and (h1 : EB Γ t1 m1 Γ) (h2 : EB Γ t2 m2 Γ) : EB Γ (mAnd t1 t2) (bindT m1 fun b => if b = true then m2 else pureT false) Γ := fun st g a g' hs hm => by
  obtain ⟨b, g1, e1, hm⟩ := bind_eq hm
  obtain ⟨st1, h1, hs1⟩ := h1 st g b g1 hs e1
  unfold mAnd
  rw [h1, bnd_some]
  cases b with
  | true => exact h2 st1 g1 a g' hs1 hm
  | false => obtain ⟨rfl, rfl⟩ := pure_eq hm; exact ⟨st1, rfl, hs1⟩
theorem eb_or (h1 : EB Γ t1 m1 Γ) (h2 : EB Γ t2 m2 Γ) : EB Γ (mOr t1 t2) (bindT m1 fun b => if b = true then pureT true else m2) Γ := fun st g a g' hs hm => by
  obtain ⟨b, g1, e1, hm⟩ := bind_eq hm
  obtain ⟨st1, h1, hs1⟩ := h1 st g b g1 hs e1
  unfold mOr
  rw [h1, bnd_some]
  cases b with
  | false => exact h2 st1 g1 a g' hs1 hm
  | true => obtain ⟨rfl, rfl⟩ := pure_eq hm; exact ⟨st1, rfl, hs1⟩
theorem eb_andV (h1 : EB Γ t1 (pureT b1) Γ) (h2 : EB Γ t2 (pureT b2) Γ) : EB Γ (mAnd t1 t2) (pureT (b1 && b2)) Γ := fun st g a g' hs hm => by
  refine eb_and h1 h2 st g a g' hs ?_
  rw [bindT_pure]
  cases b1 <;> exact hm
/-! arguments -/
variable {u : M Dk (List D)}
theorem ea_nil : EA Γ mNil (pureT ()) (fun _ => []) Γ := fun st g a g' hs hm => by
  obtain ⟨rfl, rfl⟩ := pure_eq hm
  exact ⟨st, rfl, hs⟩
theorem ea_cons {fb : β → List D} (ha : ET Γ e ma ea Γ1) (hb : EA Γ1 u mb fb Γ2) : EA Γ (mCons e u) (bindT ma fun x => bindT mb fun y => pureT (x, y)) (fun p => ea p.1 :: fb p.2) Γ2 := fun st g a g' hs hm => by
  obtain ⟨x, g1, m1, hm⟩ := bind_eq hm
  obtain ⟨y, g2, m2, hm⟩ := bind_eq hm
  obtain ⟨rfl, rfl⟩ := pure_eq hm
  obtain ⟨st1, h1, hs1⟩ := ha st g x g1 hs m1
  obtain ⟨st2, h2, hs2⟩ := hb st1 g1 y g2 hs1 m2
  exact ⟨st2, by unfold mCons; rw [h1, bnd_some, h2]; rfl, hs2⟩
theorem ea_consV {fb : β → List D} (ha : ET Γ e (pureT x) ea Γ1) (hb : EA Γ1 u (pureT y) fb Γ2) : EA Γ (mCons e u) (pureT (x, y)) (fun p => ea p.1 :: fb p.2) Γ2 := ea_cons ha hb
theorem en_call {F : Fn Dk} {fa : α → List D} (h : EA Γ u ma fa Γ1) : EN Γ (mCall F u) (bindT ma fun x => callT F ec (fa x)) false ec Γ1 := fun st g a g' hs hm => by
  obtain ⟨x, g1, m1, hm⟩ := bind_eq hm
  obtain ⟨st1, h1, hs1⟩ := h st g x g1 hs m1
  exact ⟨st1, by unfold mCall; rw [h1, bnd_some, callT_ok hm]; rfl, hs1⟩
theorem en_callV {F : Fn Dk} {fa : α → List D} {ds : List D} (h : EA Γ u (pureT x) fa Γ1) (hd : fa x = ds) : EN Γ (mCall F u) (callT F ec ds) false ec Γ1 := by
  subst hd
  exact en_call h
theorem en_callK {F : Fn Dk} {pm : List Nat} {fa : α → List D} (h : EA Γ u ma fa Γ1) : EN Γ (mCallK pm F u) (bindT ma fun x => callT F ec (permD pm (fa x))) false ec Γ1 := fun st g a g' hs hm => by
  obtain ⟨x, g1, m1, hm⟩ := bind_eq hm
  obtain ⟨st1, h1, hs1⟩ := h st g x g1 hs m1
  exact ⟨st1, by unfold mCallK; rw [h1, bnd_some, callT_ok hm]; rfl, hs1⟩
theorem en_tup {fa : α → List D} {f : α → γ} (h : EA Γ u ma fa Γ1) (hd : ∀ x, D.tup (fa x) = ec (f x)) (hl : ∀ x, (fa x).length ≤ 1000) : EN Γ (mTup u) (bindT ma fun x => pureT (f x)) false ec Γ1 := fun st g a g' hs hm => by
  obtain ⟨x, g1, m1, hm⟩ := bind_eq hm
  obtain ⟨rfl, rfl⟩ := pure_eq hm
  obtain ⟨st1, h1, hs1⟩ := h st g x g1 hs m1
  refine ⟨st1, ?_, hs1⟩
  unfold mTup
  rw [h1, bnd_some, if_pos (le_sz (Nat.le_trans (hl x) (by decide))), hd]
  rfl
theorem en_tupV {fa : α → List D} (h : EA Γ u (pureT x) fa Γ1) (hd : D.tup (fa x) = ec z) (hl : (fa x).length ≤ 1000) : EN Γ (mTup u) (pureT z) false ec Γ1 := fun st g a g' hs hm => by
  obtain ⟨rfl, rfl⟩ := pure_eq hm
  obtain ⟨st1, h1, hs1⟩ := h st g x g hs rfl
  refine ⟨st1, ?_, hs1⟩
  unfold mTup
  rw [h1, bnd_some, if_pos (le_sz (Nat.le_trans hl (by decide))), hd]
  rfl
theorem en_lst {fa : α → List D} {f : α → γ} (h : EA Γ u ma fa Γ1) (hd : ∀ x, D.lst (fa x) = ec (f x)) (hl : ∀ x, (fa x).length ≤ 1000) : EN Γ (mLst u) (bindT ma fun x => pureT (f x)) true ec Γ1 := fun st g a g' hs hm => by
  obtain ⟨x, g1, m1, hm⟩ := bind_eq hm
  obtain ⟨rfl, rfl⟩ := pure_eq hm
  obtain ⟨st1, h1, hs1⟩ := h st g x g1 hs m1
  refine ⟨st1, ?_, hs1⟩
  unfold mLst
  rw [h1, bnd_some, if_pos (le_sz (Nat.le_trans (hl x) (by decide))), hd]
  rfl
theorem en_lstV {fa : α → List D} (h : EA Γ u (pureT x) fa Γ1) (hd : D.lst (fa x) = ec z) (hl : (fa x).length ≤ 1000) : EN Γ (mLst u) (pureT z) true ec Γ1 := fun st g a g' hs hm => by
  obtain ⟨rfl, rfl⟩ := pure_eq hm
  obtain ⟨st1, h1, hs1⟩ := h st g x g hs rfl
  refine ⟨st1, ?_, hs1⟩
  unfold mLst
  rw [h1, bnd_some, if_pos (le_sz (Nat.le_trans hl (by decide))), hd]
  rfl
end
end DL
namespace DL
open PySem PySem.Spec PyProof.Rows L2
section
variable {α β γ δ ρ : Type}
variable {Γ Γ1 Γ2 Γ3 st st1 st2 : Sl} {i j k : Nat} {s t : S} {d : D} {g g' : Dk}
variable {ow : Bool} {e e1 e2 : M Dk S} {ma : TM α} {mb : TM β} {mc : TM γ} {ea : α → D} {eb : β → D} {ec : γ → D} {x : α} {y : β} {z : γ}
/-! ### what is gone through -/
theorem ei_seqT {ml : TM (List α)} (h : ET Γ e ml (eT ea) Γ1) : EI Γ (srcSeq e) ml ea Γ1 := fun st g a g' hs hm => by
  obtain ⟨st', h1, h2⟩ := h st g a g' hs hm
  exact ⟨_, st', by unfold srcSeq; rw [h1]; rfl, h2⟩
@[irreducible] def rngI (lo : Int) (n : Nat) : List Int := (List.range n).map fun (i : Nat) => lo + (i : Int)
theorem rngI_D (lo : Int) (n : Nat) : rangeD lo n = (rngI lo n).map D.int := by
  unfold rangeD rngI
  rw [List.map_map]; rfl
@[irreducible] def rngT (j : Int) : Option (List Int) := if -(2 ^ 62) ≤ j ∧ j < 2 ^ 62 ∧ j.toNat ≤ sizeLine then some (rngI 0 j.toNat) else none
theorem ei_range1 {mi : TM Int} (h : ET Γ e mi D.int Γ1) : EI Γ (srcRange1 e) (bindT mi fun n => optT (rngT n)) D.int Γ1 := fun st g a g' hs hm => by
  obtain ⟨n, g1, m1, hm⟩ := bind_eq hm
  obtain ⟨ho, rfl⟩ := opt_eq hm
  obtain ⟨st', h1, h2⟩ := h st g n g1 hs m1
  unfold rngT at ho
  split at ho
  · rename_i hc
    cases ho
    exact ⟨_, st', by unfold srcRange1; rw [h1, bnd_some]; simp only [hc, and_self, if_true]; rw [rngI_D], h2⟩
  · cases ho
/-! ### names given -/
theorem as_nm (h : i < Γ.length) (hΓ : Γ.set i (some (.sh d)) = Γ1) : asg (.nm i) d Γ = some Γ1 := by
  simp only [asg]; rw [if_pos h, hΓ]
theorem as_tp {ps : List Pt} {ds : List D} (hd : d = .tup ds) (h : asgs ps ds Γ = some Γ1) : asg (.tp ps) d Γ = some Γ1 := by
  subst hd; simp only [asg]; exact h
theorem as_nil : asgs [] [] Γ = some Γ := by simp only [asgs]
theorem as_cons {p : Pt} {ps : List Pt} {ds : List D} (h : asg p d Γ = some Γ1) (h2 : asgs ps ds Γ1 = some Γ2) : asgs (p :: ps) (d :: ds) Γ = some Γ2 := by
  simp only [asgs]; rw [h]; exact h2
/-! ### comprehensions -/
variable {src : M Dk (List D × List S)} {p : Pt} {vs : List Nat} {test : M Dk Bool} {elt : M Dk S} {Γa : α → Sl} {mt : α → TM Bool} {me : α → TM β} {ml : TM (List α)}
/-! ### statements -/
inductive Flo (β ρ : Type) where
  | nx (b : β) | rt (r : ρ)
def JN (Γ : Sl) (s : M Dk Fl) (m : TM β) (Γ' : β → Sl) : Prop := ∀ st g b g', Sat Γ st → m g = some (b, g') → ∃ st', s st g = some (.nx, st', g') ∧ Sat (Γ' b) st'
def JB (Γ : Sl) (s : M Dk Fl) (m : TM ρ) (er : ρ → D) : Prop := ∀ st g r g', Sat Γ st → m g = some (r, g') → ∃ st', s st g = some (.rt (er r), st', g')
def FloOk (x : Option (Fl × Sl × Dk)) (Γ' : β → Sl) (er : ρ → D) (g' : Dk) : Flo β ρ → Prop
  | .nx b => ∃ st', x = some (.nx, st', g') ∧ Sat (Γ' b) st'
  | .rt r => ∃ st', x = some (.rt (er r), st', g')
def JF (Γ : Sl) (s : M Dk Fl) (m : TM (Flo β ρ)) (Γ' : β → Sl) (er : ρ → D) : Prop := ∀ st g r g', Sat Γ st → m g = some (r, g') → FloOk (s st g) Γ' er g' r
variable {s1 s2 : M Dk Fl} {m1 : TM β} {m2 : β → TM γ} {Γb : β → Sl} {Γc : γ → Sl} {er : ρ → D} {mr : TM ρ} {mr2 : β → TM ρ} {mf : TM (Flo β ρ)} {mf2 : β → TM (Flo γ ρ)} {c : M Dk Bool} {mt1 : TM Bool}
theorem sn_wk {f : β → γ} (h : JN Γ s1 m1 Γb) (hw : ∀ b, Wk (Γc (f b)) (Γb b)) : JN Γ s1 (bindT m1 fun b => pureT (f b)) Γc := fun st g b g' hs hm => by
  obtain ⟨b, g1, m1, hm⟩ := bind_eq hm
  obtain ⟨rfl, rfl⟩ := pure_eq hm
  obtain ⟨st', h1, h2⟩ := h st g b g1 hs m1
  exact ⟨st', h1, (hw b).sat.trans h2⟩
theorem sn_set {ma : TM α} {Γ' : α → Sl} (he : EN Γ e ma ow ea Γ1) (hi : i < Γ1.length) (hΓ : ∀ a, Γ1.set i (some (sOf ow (ea a))) = Γ' a) : JN Γ (mSet i e) ma Γ' := fun st g a g' hs hm => by
  obtain ⟨st', h1, h2⟩ := he st g a g' hs hm
  refine ⟨st'.set i (some (sOf ow (ea a))), ?_, by rw [← hΓ]; exact h2.set _⟩
  unfold mSet
  rw [h1, bnd_some, if_pos (by rw [h2.1]; exact hi)]
  cases ow <;> rfl
theorem sn_next {b : β} (hw : Wk (Γb b) Γ) : JN Γ mNext (pureT b) Γb := fun st g a g' hs hm => by
  obtain ⟨rfl, rfl⟩ := pure_eq hm
  exact ⟨st, rfl, hw.sat.trans hs⟩
theorem sn_seq (h1 : JN Γ s1 m1 Γb) (h2 : ∀ b, JN (Γb b) s2 (m2 b) Γc) : JN Γ (mSeq s1 s2) (bindT m1 m2) Γc := fun st g b g' hs hm => by
  obtain ⟨b, g1, e1, hm⟩ := bind_eq hm
  obtain ⟨st1, e2, hs1⟩ := h1 st g b g1 hs e1
  unfold mSeq
  rw [e2, bnd_some]
  exact h2 b st1 g1 _ g' hs1 hm
theorem sb_seq (h1 : JN Γ s1 m1 Γb) (h2 : ∀ b, JB (Γb b) s2 (mr2 b) er) : JB Γ (mSeq s1 s2) (bindT m1 mr2) er := fun st g b g' hs hm => by
  obtain ⟨b, g1, e1, hm⟩ := bind_eq hm
  obtain ⟨st1, e2, hs1⟩ := h1 st g b g1 hs e1
  unfold mSeq
  rw [e2, bnd_some]
  exact h2 b st1 g1 _ g' hs1 hm
theorem sf_seq (h1 : JN Γ s1 m1 Γb) (h2 : ∀ b, JF (Γb b) s2 (mf2 b) Γc er) : JF Γ (mSeq s1 s2) (bindT m1 mf2) Γc er := fun st g b g' hs hm => by
  obtain ⟨b, g1, e1, hm⟩ := bind_eq hm
  obtain ⟨st1, e2, hs1⟩ := h1 st g b g1 hs e1
  unfold mSeq
  rw [e2, bnd_some]
  exact h2 b st1 g1 _ g' hs1 hm
def bindF (m : TM (Flo β ρ)) (k : β → TM ρ) : TM ρ := bindT m fun r => match r with
  | .nx b => k b
  | .rt r => pureT r
def bindFF (m : TM (Flo β ρ)) (k : β → TM (Flo γ ρ)) : TM (Flo γ ρ) := bindT m fun r => match r with
  | .nx b => k b
  | .rt r => pureT (.rt r)
@[simp] theorem bindF_nx (b : β) (k : β → TM ρ) : bindF (pureT (.nx b)) k = k b := rfl
@[simp] theorem bindF_rt (r : ρ) (k : β → TM ρ) : bindF (pureT (.rt r)) k = pureT r := rfl
@[simp] theorem bindFF_nx (b : β) (k : β → TM (Flo γ ρ)) : bindFF (pureT (.nx b)) k = k b := rfl
@[simp] theorem bindFF_rt (r : ρ) (k : β → TM (Flo γ ρ)) : bindFF (pureT (.rt r)) k = pureT (.rt r) := rfl
theorem sb_seqF (h1 : JF Γ s1 mf Γb er) (h2 : ∀ b, JB (Γb b) s2 (mr2 b) er) : JB Γ (mSeq s1 s2) (bindF mf mr2) er := fun st g r g' hs hm => by
  obtain ⟨f, g1, e1, hm⟩ := bind_eq hm
  have h := h1 st g f g1 hs e1
  unfold mSeq
  cases f with
  | nx b =>
    obtain ⟨st1, e2, hs1⟩ := h
    rw [e2, bnd_some]
    exact h2 b st1 g1 r g' hs1 hm
  | rt q =>
    obtain ⟨rfl, rfl⟩ := pure_eq hm
    obtain ⟨st1, e2⟩ := h
    rw [e2, bnd_some]
    exact ⟨st1, rfl⟩
theorem sb_ret (h : ET Γ e mr er Γ1) : JB Γ (mRet e) mr er := fun st g r g' hs hm => by
  obtain ⟨st1, h1, _⟩ := h st g r g' hs hm
  exact ⟨st1, by unfold mRet; rw [h1]; rfl⟩
theorem sf_sb (h : JB Γ s1 mr er) : JF Γ s1 (bindT mr fun r => pureT (.rt r)) Γb er := fun st g r g' hs hm => by
  obtain ⟨r, g1, e1, hm⟩ := bind_eq hm
  obtain ⟨rfl, rfl⟩ := pure_eq hm
  exact h st g r g1 hs e1
theorem sf_sn (h : JN Γ s1 m1 Γb) : JF Γ s1 (bindT m1 fun b => pureT (.nx b)) Γb er := fun st g r g' hs hm => by
  obtain ⟨b, g1, e1, hm⟩ := bind_eq hm
  obtain ⟨rfl, rfl⟩ := pure_eq hm
  exact h st g b g1 hs e1
theorem sn_if {m2 m3 : TM β} (hc : EB Γ c mt1 Γ) (h1 : JN Γ s1 m2 Γb) (h2 : JN Γ s2 m3 Γb) : JN Γ (mIf c s1 s2) (bindT mt1 fun b => if b = true then m2 else m3) Γb := fun st g r g' hs hm => by
  obtain ⟨b, g1, e1, hm⟩ := bind_eq hm
  obtain ⟨st1, h3, hs1⟩ := hc st g b g1 hs e1
  unfold mIf
  rw [h3, bnd_some]
  cases b with
  | true => exact h1 st1 g1 r g' hs1 hm
  | false => exact h2 st1 g1 r g' hs1 hm
theorem sf_if {m2 m3 : TM (Flo β ρ)} (hc : EB Γ c mt1 Γ) (h1 : JF Γ s1 m2 Γb er) (h2 : JF Γ s2 m3 Γb er) : JF Γ (mIf c s1 s2) (bindT mt1 fun b => if b = true then m2 else m3) Γb er := fun st g r g' hs hm => by
  obtain ⟨b, g1, e1, hm⟩ := bind_eq hm
  obtain ⟨st1, h3, hs1⟩ := hc st g b g1 hs e1
  unfold mIf
  rw [h3, bnd_some]
  cases b with
  | true => exact h1 st1 g1 r g' hs1 hm
  | false => exact h2 st1 g1 r g' hs1 hm
theorem sb_ifret {m2 m3 : TM ρ} (hc : EB Γ c mt1 Γ) (h1 : JB Γ s1 m2 er) (h2 : JB Γ s2 m3 er) : JB Γ (mSeq (mIf c s1 mNext) s2) (bindT mt1 fun b => if b = true then m2 else m3) er := fun st g r g' hs hm => by
  obtain ⟨b, g1, e1, hm⟩ := bind_eq hm
  obtain ⟨st1, h3, hs1⟩ := hc st g b g1 hs e1
  unfold mSeq mIf
  rw [h3, bnd_some]
  cases b with
  | true =>
    obtain ⟨st2, h4⟩ := h1 st1 g1 r g' hs1 hm
    exact ⟨st2, by simp only [if_true]; rw [h4]; rfl⟩
  | false => exact h2 st1 g1 r g' hs1 hm
theorem sf_ifret {m2 : TM ρ} {m3 : TM (Flo β ρ)} (hc : EB Γ c mt1 Γ) (h1 : JB Γ s1 m2 er) (h2 : JF Γ s2 m3 Γb er) : JF Γ (mSeq (mIf c s1 mNext) s2) (bindT mt1 fun b => if b = true then bindT m2 fun r => pureT (.rt r) else m3) Γb er := fun st g r g' hs hm => by
  obtain ⟨b, g1, e1, hm⟩ := bind_eq hm
  obtain ⟨st1, h3, hs1⟩ := hc st g b g1 hs e1
  unfold mSeq mIf
  rw [h3, bnd_some]
  cases b with
  | true =>
    rw [if_pos rfl] at hm
    obtain ⟨q, g2, e2, hm⟩ := bind_eq hm
    obtain ⟨rfl, rfl⟩ := pure_eq hm
    obtain ⟨st2, h4⟩ := h1 st1 g1 q g2 hs1 e2
    exact ⟨st2, by simp only [if_true]; rw [h4]; rfl⟩
  | false => exact h2 st1 g1 r g' hs1 hm
/-! loops -/
def forT (body : α → β → TM β) : List α → β → TM β
  | [], b => pureT b
  | a :: l, b => bindT (body a b) fun b' => forT body l b'
def forF (body : α → β → TM (Flo β ρ)) : List α → β → TM (Flo β ρ)
  | [], b => pureT (.nx b)
  | a :: l, b => bindFF (body a b) fun b' => forF body l b'
variable {body : M Dk Fl} {Γab : α → β → Sl}
theorem for_run {mb : α → β → TM β} (ha : ∀ a b, asg p (ea a) (Γb b) = some (Γab a b)) (hb : ∀ a b, JN (Γab a b) body (mb a b) Γb) :
    ∀ (l : List α) (b : β) (st : Sl) (g : Dk) (r : β) (g' : Dk), Sat (Γb b) st → forT mb l b g = some (r, g') → ∃ st', forM p body (l.map ea) st g = some (.nx, st', g') ∧ Sat (Γb r) st'
  | [], b, st, g, r, g', hs, hm => by
    obtain ⟨rfl, rfl⟩ := pure_eq hm
    exact ⟨st, rfl, hs⟩
  | a :: l, b, st, g, r, g', hs, hm => by
    unfold forT at hm
    obtain ⟨b1, g1, e1, hm⟩ := bind_eq hm
    obtain ⟨st1, e2, hs1⟩ := Sat.asg p (ea a) hs (ha a b)
    obtain ⟨st2, e3, hs2⟩ := hb a b st1 g b1 g1 hs1 e1
    rw [List.map_cons]
    unfold forM
    rw [e2, Option.bind_some, e3, bnd_some]
    exact for_run ha hb l b1 st2 g1 r g' hs2 hm
theorem forF_run {mb : α → β → TM (Flo β ρ)} (ha : ∀ a b, asg p (ea a) (Γb b) = some (Γab a b)) (hb : ∀ a b, JF (Γab a b) body (mb a b) Γb er) :
    ∀ (l : List α) (b : β) (st : Sl) (g : Dk) (r : Flo β ρ) (g' : Dk), Sat (Γb b) st → forF mb l b g = some (r, g') → FloOk (forM p body (l.map ea) st g) Γb er g' r
  | [], b, st, g, r, g', hs, hm => by
    obtain ⟨rfl, rfl⟩ := pure_eq hm
    exact ⟨st, rfl, hs⟩
  | a :: l, b, st, g, r, g', hs, hm => by
    unfold forF at hm
    obtain ⟨q, g1, e1, hm⟩ := bind_eq hm
    obtain ⟨st1, e2, hs1⟩ := Sat.asg p (ea a) hs (ha a b)
    have h := hb a b st1 g q g1 hs1 e1
    rw [List.map_cons]
    unfold forM
    rw [e2, Option.bind_some]
    cases q with
    | nx b1 =>
      obtain ⟨st2, e3, hs2⟩ := h
      rw [e3, bnd_some]
      exact forF_run ha hb l b1 st2 g1 r g' hs2 hm
    | rt q =>
      obtain ⟨rfl, rfl⟩ := pure_eq hm
      obtain ⟨st2, e3⟩ := h
      rw [e3, bnd_some]
      exact ⟨st2, rfl⟩
theorem sn_for {mb : α → β → TM β} {b0 : β} (hi : EI Γ src ml ea Γ1) (h0 : Wk (Γb b0) Γ1) (ha : ∀ a b, asg p (ea a) (Γb b) = some (Γab a b)) (hb : ∀ a b, JN (Γab a b) body (mb a b) Γb) : JN Γ (mFor src p body) (bindT ml fun l => forT mb l b0) Γb := fun st g r g' hs hm => by
  obtain ⟨l, g1, e1, hm⟩ := bind_eq hm
  obtain ⟨c, st1, h1, hs1⟩ := hi st g l g1 hs e1
  unfold mFor
  rw [h1, bnd_some]
  exact for_run ha hb l b0 st1 g1 r g' (h0.sat.trans hs1) hm
theorem sf_for {mb : α → β → TM (Flo β ρ)} {b0 : β} (hi : EI Γ src ml ea Γ1) (h0 : Wk (Γb b0) Γ1) (ha : ∀ a b, asg p (ea a) (Γb b) = some (Γab a b)) (hb : ∀ a b, JF (Γab a b) body (mb a b) Γb er) : JF Γ (mFor src p body) (bindT ml fun l => forF mb l b0) Γb er := fun st g r g' hs hm => by
  obtain ⟨l, g1, e1, hm⟩ := bind_eq hm
  obtain ⟨c, st1, h1, hs1⟩ := hi st g l g1 hs e1
  unfold mFor
  rw [h1, bnd_some]
  exact forF_run ha hb l b0 st1 g1 r g' (h0.sat.trans hs1) hm
/-- a loop that ends early, or goes on -/
theorem forF_wp {mb : α → β → TM (Flo β ρ)} {Q : Flo β ρ → Dk → Prop} (J : Nat → β → Dk → Prop) : ∀ (l : List α) (k : Nat) (b : β) (g : Dk), J k b g → (∀ j a b g, l[j]? = some a → J (k + j) b g → wpT (mb a b) g fun r g' => match r with | .nx b' => J (k + j + 1) b' g' | .rt r => Q (.rt r) g') → (∀ b g', J (k + l.length) b g' → Q (.nx b) g') → wpT (forF mb l b) g Q
  | [], k, b, g, h0, _, hq => wpT_pure (hq b g (by simpa using h0))
  | a :: l, k, b, g, h0, hs, hq => by
    unfold forF
    refine wpT_bind (wpT_mono (hs 0 a b g rfl h0) fun r g1 h1 => ?_)
    cases r with
    | rt r => exact wpT_pure h1
    | nx b1 =>
      refine forF_wp J l (k + 1) b1 g1 h1 (fun j a b g e h => ?_) fun r g2 h2 => hq _ _ ?_
      · have := hs (j + 1) a b g e (by rw [show k + (j + 1) = k + 1 + j by omega]; exact h)
        rw [show k + (j + 1) + 1 = k + 1 + j + 1 by omega] at this
        exact this
      · rw [List.length_cons, show k + (l.length + 1) = k + 1 + l.length by omega]; exact h2
def whileTn (c : β → TM Bool) (b : β → TM β) : Nat → β → TM β
  | 0, _ => failT
  | n + 1, x => bindT (c x) fun t => if t = true then bindT (b x) (whileTn c b n) else pureT x
@[irreducible] noncomputable def whileT (c : β → TM Bool) (b : β → TM β) (x : β) : TM β := fun g => open Classical in if h : ∃ n, (whileTn c b n x g).isSome = true then whileTn c b h.choose x g else none
theorem while_run {mb : β → TM β} {mc : β → TM Bool} (hc : ∀ b, EB (Γb b) c (mc b) (Γb b)) (hb : ∀ b, JN (Γb b) body (mb b) Γb) :
    ∀ (n : Nat) (b : β) (st : Sl) (g : Dk) (r : β) (g' : Dk), Sat (Γb b) st → whileTn mc mb n b g = some (r, g') → ∃ st', whileM c body n st g = some (.nx, st', g') ∧ Sat (Γb r) st'
  | 0, b, st, g, r, g', hs, hm => by cases hm
  | n + 1, b, st, g, r, g', hs, hm => by
    unfold whileTn at hm
    obtain ⟨t, g1, e1, hm⟩ := bind_eq hm
    obtain ⟨st1, h1, hs1⟩ := hc b st g t g1 hs e1
    unfold whileM
    rw [h1, bnd_some]
    cases t with
    | true =>
      rw [if_pos rfl] at hm ⊢
      obtain ⟨b1, g2, e2, hm⟩ := bind_eq hm
      obtain ⟨st2, h2, hs2⟩ := hb b st1 g1 b1 g2 hs1 e2
      rw [h2, bnd_some]
      exact while_run hc hb n b1 st2 g2 r g' hs2 hm
    | false =>
      rw [if_neg (by simp)] at hm ⊢
      obtain ⟨rfl, rfl⟩ := pure_eq hm
      exact ⟨st1, rfl, hs1⟩
theorem sn_while {mb : β → TM β} {mc : β → TM Bool} {b0 : β} (h0 : Wk (Γb b0) Γ) (hc : ∀ b, EB (Γb b) c (mc b) (Γb b)) (hb : ∀ b, JN (Γb b) body (mb b) Γb) : JN Γ (mWhile c body) (whileT mc mb b0) Γb := fun st g r g' hs hm => by
  unfold whileT at hm
  split at hm
  · rename_i hx
    obtain ⟨st', h1, h2⟩ := while_run hc hb hx.choose b0 st g r g' (h0.sat.trans hs) hm
    exact ⟨st', mWhile_of h1, h2⟩
  · cases hm
theorem whileTn_mono {c : β → TM Bool} {b : β → TM β} : ∀ (n : Nat) (x : β) (g : Dk) r, whileTn c b n x g = some r → whileTn c b (n + 1) x g = some r
  | 0, x, g, r, h => by cases h
  | n + 1, x, g, r, h => by
    unfold whileTn at h
    obtain ⟨t, g1, e1, h⟩ := bind_eq h
    unfold whileTn bindT
    rw [e1]
    simp only [Option.bind_some]
    cases t with
    | false => exact h
    | true =>
      rw [if_pos rfl] at h ⊢
      obtain ⟨y, g2, e2, h⟩ := bind_eq h
      show Option.bind (b x g1) _ = _
      rw [e2]
      exact whileTn_mono n y g2 r h
theorem whileTn_le {c : β → TM Bool} {b : β → TM β} {n m : Nat} {x : β} {g : Dk} {r} (hnm : n ≤ m) (h : whileTn c b n x g = some r) : whileTn c b m x g = some r := by
  induction hnm with
  | refl => exact h
  | step _ ih => exact whileTn_mono _ _ _ _ ih
theorem whileT_of {c : β → TM Bool} {b : β → TM β} {n : Nat} {x : β} {g : Dk} {r} (h : whileTn c b n x g = some r) : whileT c b x g = some r := by
  have hx : ∃ n, (whileTn c b n x g).isSome = true := ⟨n, by rw [h]; rfl⟩
  unfold whileT
  rw [dif_pos hx]
  have h1 := whileTn_le (Nat.le_max_left n hx.choose) h
  obtain ⟨r2, h2⟩ := Option.isSome_iff_exists.mp hx.choose_spec
  have h3 := whileTn_le (Nat.le_max_right n hx.choose) h2
  rw [h1] at h3
  rw [h2, h3]
theorem whileT_stop {c : β → TM Bool} {b : β → TM β} {x : β} {g : Dk} (h : c x g = some (false, g)) : whileT c b x g = some (x, g) := whileT_of (n := 1) (by unfold whileTn bindT; rw [h]; rfl)
theorem whileT_go {c : β → TM Bool} {b : β → TM β} {x y : β} {g g1 g2 : Dk} {r} (h : c x g = some (true, g1)) (h2 : b x g1 = some (y, g2)) (h3 : whileT c b y g2 = some r) : whileT c b x g = some r := by
  unfold whileT at h3
  split at h3
  · rename_i hx
    refine whileT_of (n := hx.choose + 1) ?_
    unfold whileTn bindT
    rw [h]
    simp only [Option.bind_some, if_true]
    rw [h2]
    exact h3
  · cases h3
/-! functions -/
theorem fn_ok {n k : Nat} {B : M Dk Fl} {ds : List D} (h : JB Γ B mr er) (hl : ds.length = n) (hΓ : ds.map (fun d => some (S.sh d)) ++ List.replicate (k - n) none = Γ) {g g' : Dk} {r : ρ} (hm : mr g = some (r, g')) : mFn n k B ds g = some (er r, g') := by
  subst hΓ
  obtain ⟨st', e⟩ := h _ g r g' Sat.refl hm
  exact mFn_rt hl e
end
end DL
namespace DL
open PySem PySem.Spec PyProof.Rows L2
theorem opAdd_tup {a b : List D} (h : a.length + b.length ≤ sizeLine) : opAdd (.tup a) (.tup b) = some (.sh (.tup (a ++ b))) := by simp [opAdd, h]
/-! ### values put otherwise -/
end DL
namespace DL
open PySem PySem.Spec PyProof.Rows L2
/-! ### small tools -/
/-! ### pairs, rows, rising -/
/-! ### names, by the law -/
theorem eqv_int (a b : Int) : PyData.eqv (.int a) (.int b) = decide (a = b) := by simp [PyData.eqv]; rfl
end DL
namespace DL
open PySem PySem.Spec PyProof.Rows L2
/-- names -/
def strD : D → Str
  | .str s => s
  | _ => ⟨#[]⟩
end DL
namespace DL
open PySem PySem.Spec PyProof.Rows L2
/-! ### schemes are fine -/
theorem wts_map {α : Type} (l : List α) (f : α → D) (B : Nat) (h : ∀ a ∈ l, wt (f a) ≤ B) : wts (l.map f) ≤ l.length * (B + 2) := by
  induction l with
  | nil => simp [wts]
  | cons a l ih =>
    have h1 := h a List.mem_cons_self
    have h2 := ih fun a ha => h a (List.mem_cons_of_mem _ ha)
    simp only [List.map_cons, wts, List.length_cons, Nat.succ_mul]
    omega
theorem wts_le {l : List D} {B : Nat} (h : ∀ d ∈ l, wt d ≤ B) : wts l ≤ l.length * (B + 2) := by
  have := wts_map l id B h
  rw [List.map_id] at this; exact this
theorem Fi.map_tup {α : Type} {l : List α} {f : α → D} {B k L N : Nat} (h : ∀ a ∈ l, Fi B k (f a)) (hl : l.length ≤ L) (hN : L * (B + 2) + 3 ≤ N) : Fi N (k + 1) (.tup (l.map f)) :=
  Fi.tup (fun d hd => by obtain ⟨a, ha, rfl⟩ := List.mem_map.mp hd; exact ⟨(h a ha).ok, (h a ha).dp⟩) (by
    have := wts_map l f B fun a ha => (h a ha).w
    have : l.length * (B + 2) ≤ L * (B + 2) := Nat.mul_le_mul_right _ hl
    omega)
theorem Fi.list_tup {l : List D} {B k L N : Nat} (h : ∀ d ∈ l, Fi B k d) (hl : l.length ≤ L) (hN : L * (B + 2) + 3 ≤ N) : Fi N (k + 1) (.tup l) := by
  have := Fi.map_tup (l := l) (f := id) h hl hN
  rw [List.map_id] at this; exact this
theorem Fi.list_lst {l : List D} {B k L N : Nat} (h : ∀ d ∈ l, Fi B k d) (hl : l.length ≤ L) (hN : L * (B + 2) + 3 ≤ N) : Fi N (k + 1) (.lst l) :=
  Fi.lst (fun d hd => ⟨(h d hd).ok, (h d hd).dp⟩) (by
    have := wts_le fun d hd => (h d hd).w
    have : l.length * (B + 2) ≤ L * (B + 2) := Nat.mul_le_mul_right _ hl
    omega)
theorem fi_str {s : Str} {B : Nat} (h : strOk s = true) (hl : 10 * s.length + 2 ≤ B) : Fi B 0 (.str s) := ⟨by simpa only [okD] using h, by simpa only [wt] using hl, by simp [D.py, PyData.depth]⟩
theorem fi_i {i : Int} (h : i.natAbs < 2 ^ 1920) : Fi 2000 0 (.int i) := ⟨by
  have : i.natAbs.log2 < 1920 := by
    by_cases e : i.natAbs = 0
    · rw [e]; decide
    · exact (Nat.log2_lt e).mpr h
  simp only [okD, this, decide_true], by simp [wt], by simp [D.py, PyData.depth]⟩
theorem colNames_ok : ∀ s ∈ colNames, strOk s = true ∧ s.length ≤ 6 ∧ nameB (.str s) = true := by decide +kernel
theorem dialNames_ok : ∀ s ∈ dialNames, strOk s = true ∧ s.length ≤ 6 ∧ nameB (.str s) = true := by decide +kernel
theorem headNames_ok : ∀ s ∈ headNames, strOk s = true ∧ s.length ≤ 6 ∧ nameB (.str s) = true := by decide +kernel
theorem fi_of {s : Str} (h : strOk s = true ∧ s.length ≤ 6 ∧ nameB (.str s) = true) : Fi 62 0 (.str s) := fi_str h.1 (by omega)
theorem fi_tx {l : List Str} {L N : Nat} (h : ∀ s ∈ l, strOk s = true ∧ s.length ≤ 6 ∧ nameB (.str s) = true) (hl : l.length ≤ L) (hN : L * 64 + 3 ≤ N) : Fi N 1 (.tup (tx l)) :=
  Fi.map_tup (fun s hs => fi_of (h s hs)) hl hN
section
variable {dl : List (Str × Str)} {hs : List (Str × List Str)}
theorem Dials.fi (hd : Dials dl) : Fi 800 2 (.tup (dl.map dialE)) := by
  refine Fi.map_tup (B := 131) (L := 5) (fun p hp => ?_) hd.few (by decide)
  unfold dialE
  refine Fi.list_tup (B := 62) (L := 2) (fun d hd' => ?_) (by simp) (by decide)
  simp only [List.mem_cons, List.not_mem_nil, or_false] at hd'
  rcases hd' with rfl | rfl
  · exact fi_of (colNames_ok _ (hd.col p hp))
  · exact fi_of (dialNames_ok _ (hd.dial p hp))
theorem Heads.col (hd : Dials dl) (hh : Heads dl hs) : ∀ p ∈ hs, ∀ c ∈ p.2, c ∈ colNames := fun p hp c hc => by
  obtain ⟨q, hq, rfl⟩ := List.mem_map.mp (hh.sub p hp c hc)
  exact hd.col q hq
theorem Heads.fi (hd : Dials dl) (hh : Heads dl hs) : Fi 1200 3 (.tup (hs.map headE)) := by
  refine Fi.map_tup (B := 266) (L := 4) (fun p hp => ?_) hh.few (by decide)
  unfold headE
  have f1 : Fi 62 0 (.str p.1) := fi_of (headNames_ok _ (hh.name p hp))
  have f2 : Fi 195 1 (.tup (tx p.2)) := fi_tx (L := 3) (fun s hs' => colNames_ok s (hh.col hd p hp s hs')) (hh.cfew p hp) (by decide)
  refine Fi.tup (k := 1) (fun d hd' => ?_) (by simp only [wts]; have := f1.w; have := f2.w; omega)
  simp only [List.mem_cons, List.not_mem_nil, or_false] at hd'
  rcases hd' with rfl | rfl
  · exact ⟨f1.ok, by have := f1.dp; omega⟩
  · exact ⟨f2.ok, f2.dp⟩
theorem sch_fi (hd : Dials dl) (hh : Heads dl hs) : Fi 2100 4 (schE dl hs) := by
  unfold schE
  have f1 := hd.fi
  have f2 := hh.fi hd
  refine Fi.tup (k := 3) (fun d hd' => ?_) (by simp only [wts]; have := f1.w; have := f2.w; omega)
  simp only [List.mem_cons, List.not_mem_nil, or_false] at hd'
  rcases hd' with rfl | rfl
  · exact ⟨f1.ok, by have := f1.dp; omega⟩
  · exact ⟨f2.ok, f2.dp⟩
end
theorem msD_len (l : List D) : (msD l).length = l.length := List.length_mergeSort l
end DL
namespace DL
open PySem PySem.Spec PyProof.Rows L2
@[simp] theorem opApp_lst {l : List D} {d : D} (h : l.length < sizeLine) : opApp (.lst l) d = some (.lst (l ++ [d])) := by
  simp [opApp, h]
end DL
namespace DL
open PySem PySem.Spec PyProof.Rows L2
noncomputable def B_is_whole : M Dk Fl := (mRet (mAndV (mUn (opIsi .int) (mVar 0)) (mAndV (mOfB (mNot (mTest (mUn (opIsi .bool) (mVar 0))))) (mChain (opCmp .LtE) (opCmp .LtE) (mVar 1) (mVar 0) (mVar 2)))))
noncomputable def F_is_whole : Fn Dk := mFn 3 3 B_is_whole
/-! ### whole numbers, rows, tables -/
def wholeB (lo hi : Int) : D → Bool
  | .int i => decide (lo ≤ i) && decide (i ≤ hi)
  | _ => false
theorem isWhole_eq {d : D} {lo hi : Int} {g : Dk} (ho : notObj d = true) : F_is_whole [d, .int lo, .int hi] g = some (.bl (wholeB lo hi d), g) := by
  refine mFn_run rfl ?_
  show (B_is_whole [some (.sh d), some (.sh (.int lo)), some (.sh (.int hi))] g).map _ = _
  cases d with
  | int i =>
    by_cases h1 : i < lo
    · have : ¬ lo ≤ i := by omega
      simp (dsimp := false) [B_is_whole, opIsi, notObj, Kd.is, cmp_le, h1, wholeB, this]
    · have : lo ≤ i := by omega
      by_cases h2 : hi < i
      · have h3 : ¬ i ≤ hi := by omega
        simp (dsimp := false) [B_is_whole, opIsi, notObj, Kd.is, cmp_le, h1, h2, wholeB, this, h3]
      · have h3 : i ≤ hi := by omega
        simp (dsimp := false) [B_is_whole, opIsi, notObj, Kd.is, cmp_le, h1, h2, wholeB, this, h3]
  | obj _ => cases ho
  | dcn _ => cases ho
  | _ => simp (dsimp := false) [B_is_whole, opIsi, notObj, Kd.is, wholeB]
section
variable {N k w : Nat} {v : D} {l : List D} {g : Dk}
/-- a row of numbers -/
def rowE (r : List Int) : D := .tup (r.map D.int)
end
end DL
namespace DL
open PySem PySem.Spec PyProof.Rows L2
/-! ### sets of rows -/
/-! ### tables -/
def tabE (t : List (List Int)) : D := .tup (t.map rowE)
structure Tab (m w : Nat) (t : List (List Int)) : Prop where
  few : t.length ≤ m
  wide : ∀ r ∈ t, r.length = w
  key : ∀ r ∈ t, ∀ i ∈ r, 0 ≤ i ∧ i ≤ 99
  asc : Asc (t.map rowE)
structure Tabs (m : Nat) (hs : List (Str × List Str)) (ts : List (List (List Int))) : Prop where
  len : ts.length = hs.length
  tab : ∀ p ∈ hs.zip ts, Tab m p.1.2.length p.2
/-! ### dials of columns -/
end DL
namespace DL
open PySem PySem.Spec PyProof.Rows L2
theorem opNe_int (a b : Int) : opNe (.int a) (.int b) = some (.sh (.bl (!decide (a = b)))) := by
  have : okEq (.int a) (.int b) = true := by simp [okEq, D.pl, D.py, PyData.depth]
  simp only [opNe, this, if_true, eqD, D.py, eqv_int]
theorem small_fi {i : Int} (h : i.natAbs ≤ 1000000) : Fi 2000 0 (.int i) := fi_i (Nat.lt_of_le_of_lt h (by decide))
end DL
namespace DL
open PySem PySem.Spec PyProof.Rows L2
noncomputable def W_common_0 : M Dk Bool := (mTest (mOp (opCmp .Gt) (mVar 1) (mC (.int 0))))
noncomputable def L_common_1 : M Dk Fl := (mPar 0 1 (mVar 1) (mOp opMod (mVar 0) (mVar 1)))
noncomputable def B_common : M Dk Fl := (mSeq (mPar 0 1 (mUn opAbs (mVar 0)) (mUn opAbs (mVar 1))) (mSeq (mWhile W_common_0 L_common_1) (mRet (mVar 0))))
noncomputable def F_common : Fn Dk := mFn 2 2 B_common
noncomputable def B_is_rate : M Dk Fl := (mSeq (mIf (mOr (mNot (mTest (mUn (opIsi .tuple) (mVar 0)))) (mOr (mTest (mOp opNe (mUn opLen (mVar 0)) (mC (.int 2)))) (mNot (mTest (mCall F_is_whole (mCons (mOp opIx (mVar 0) (mC (.int 1))) (mCons (mC (.int 1)) (mCons (mC (.int 1000)) mNil)))))))) (mRet (mC (.bl false))) mNext) (mRet (mAndV (mCall F_is_whole (mCons (mOp opIx (mVar 0) (mC (.int 0))) (mCons (mC (.int 1)) (mCons (mOp opIx (mVar 0) (mC (.int 1))) mNil)))) (mOp opEq (mCall F_common (mCons (mOp opIx (mVar 0) (mC (.int 0))) (mCons (mOp opIx (mVar 0) (mC (.int 1))) mNil))) (mC (.int 1))))))
noncomputable def F_is_rate : Fn Dk := mFn 1 1 B_is_rate
noncomputable def W__law_lowest_0 : M Dk Bool := (mTest (mOp (opCmp .Gt) (mVar 3) (mC (.int 0))))
noncomputable def L__law_lowest_1 : M Dk Fl := (mPar 2 3 (mVar 3) (mOp opMod (mUn opInt (mVar 2)) (mVar 3)))
noncomputable def B__law_lowest : M Dk Fl := (mSeq (mPar 2 3 (mUn opAbs (mVar 0)) (mVar 1)) (mSeq (mWhile W__law_lowest_0 L__law_lowest_1) (mRet (mTup (mCons (mOp opFdiv (mVar 0) (mVar 2)) (mCons (mOp opFdiv (mVar 1) (mVar 2)) mNil))))))
noncomputable def F__law_lowest : Fn Dk := mFn 2 4 B__law_lowest
noncomputable def B__law_rate : M Dk Fl := (mSeq (mSet 1 (mShr (mLst (mCons (mTup (mCons (mC (.int 1)) (mCons (mC (.int 2)) mNil))) (mCons (mTup (mCons (mC (.int 1)) (mCons (mC (.int 3)) mNil))) (mCons (mTup (mCons (mC (.int 2)) (mCons (mC (.int 3)) mNil))) (mCons (mTup (mCons (mC (.int 1)) (mCons (mC (.int 4)) mNil))) (mCons (mTup (mCons (mC (.int 3)) (mCons (mC (.int 4)) mNil))) (mCons (mTup (mCons (mC (.int 1)) (mCons (mC (.int 2)) mNil))) (mCons (mTup (mCons (mC (.int 1)) (mCons (mC (.int 1)) mNil))) (mCons (mTup (mCons (mC (.int 1)) (mCons (mC (.int 1000)) mNil))) (mCons (mTup (mCons (mC (.int 999)) (mCons (mC (.int 1000)) mNil))) mNil)))))))))))) (mSeq (mSet 2 (mCall F__law_next (mCons (mVar 0) (mCons (mC (.int 12)) mNil)))) (mSeq (mIf (mTest (mOp (opCmp .Lt) (mVar 2) (mC (.int 9)))) (mRet (mOp opIx (mVar 1) (mVar 2))) mNext) (mSeq (mSet 3 (mShr (mOp opAdd (mC (.int 1)) (mCall F__law_next (mCons (mVar 0) (mCons (mC (.int 1000)) mNil)))))) (mRet (mCall F__law_lowest (mCons (mOp opAdd (mC (.int 1)) (mCall F__law_next (mCons (mVar 0) (mCons (mVar 3) mNil)))) (mCons (mVar 3) mNil))))))))
noncomputable def F__law_rate : Fn Dk := mFn 1 4 B__law_rate
/-! ### the greatest common part -/
theorem while_stop {c : M Dk Bool} {b : M Dk Fl} {st : Sl} {g : Dk} (hc : c st g = some (false, st, g)) : mWhile c b st g = some (.nx, st, g) := by
  refine mWhile_of (n := 1) ?_
  unfold whileM
  rw [hc, bnd_some]
  rfl
theorem while_step {c : M Dk Bool} {b : M Dk Fl} {st st1 : Sl} {g g1 : Dk} {r} (hc : c st g = some (true, st, g)) (hb : b st g = some (.nx, st1, g1)) (h : mWhile c b st1 g1 = some r) : mWhile c b st g = some r := by
  obtain ⟨n, e⟩ := mWhile_eq h
  refine mWhile_of (n := n + 1) ?_
  unfold whileM
  rw [hc, bnd_some]
  simp only [if_true]
  rw [hb, bnd_some]
  exact e
theorem while_gcd {c : M Dk Bool} {b : M Dk Fl} {g : Dk} (mk : Int → Int → Sl) (hc : ∀ x y, c (mk x y) g = some (decide (0 < y), mk x y, g)) (hb : ∀ x y, 0 < y → 0 ≤ x → b (mk x y) g = some (.nx, mk y (x % y), g)) : ∀ (n p q : Nat), q ≤ n → mWhile c b (mk p q) g = some (.nx, mk (Nat.gcd p q) 0, g)
  | n, p, 0, _ => by
    have := hc p ((0 : Nat) : Int)
    rw [Nat.gcd_zero_right]
    exact while_stop (by rw [this]; rfl)
  | 0, p, q + 1, h => by omega
  | n + 1, p, q + 1, h => by
    have h1 := hc p ((q + 1 : Nat) : Int)
    have hp : (0 : Int) < ((q + 1 : Nat) : Int) := by omega
    rw [show decide ((0 : Int) < ((q + 1 : Nat) : Int)) = true from decide_eq_true hp] at h1
    refine while_step h1 (hb _ _ hp (by omega)) ?_
    have e : ((p : Int) % ((q + 1 : Nat) : Int)) = ((p % (q + 1) : Nat) : Int) := by simp
    rw [e]
    have hl : p % (q + 1) < q + 1 := Nat.mod_lt _ (by omega)
    rw [while_gcd mk hc hb n (q + 1) (p % (q + 1)) (by omega)]
    have : Nat.gcd p (q + 1) = Nat.gcd (q + 1) (p % (q + 1)) := by rw [Nat.gcd_comm p, Nat.gcd_rec, Nat.gcd_comm]
    rw [this]
@[simp] theorem opAbs_int (i : Int) : opAbs (.int i) = some (.sh (.int (if i < 0 then -i else i))) := by
  simp only [opAbs]
theorem opAbs_nat (n : Nat) : opAbs (.int n) = some (.sh (.int n)) := by
  have : ¬ ((n : Int) < 0) := by omega
  simp only [opAbs_int, this, if_false]
theorem opMod_int {a b : Int} (h : 0 < b) : opMod (.int a) (.int b) = some (.sh (.int (a % b))) := by
  simp [opMod, opI2, h]
theorem common_eq (p q : Nat) {g : Dk} : F_common [.int p, .int q] g = some (.int (Nat.gcd p q), g) := by
  refine mFn_run rfl ?_
  show (B_common [some (.sh (.int p)), some (.sh (.int q))] g).map _ = _
  have h := while_gcd (c := W_common_0) (b := L_common_1) (g := g) (fun x y => [some (.sh (.int x)), some (.sh (.int y))]) (fun x y => by simp (dsimp := false) [W_common_0, cmp_gt]) (fun x y hy hx => by simp (dsimp := false) [L_common_1, opMod_int hy]) q p q (Nat.le_refl _)
  simp (dsimp := false) [B_common, opAbs_nat, h, -opAbs_int]
theorem gcd_log {t b : Nat} (hb : 0 < b) (hb2 : b < 2 ^ 4000) : 0 < Nat.gcd t b ∧ (Nat.gcd t b).log2 < 9000 := by
  have h1 : 0 < Nat.gcd t b := Nat.gcd_pos_of_pos_right _ hb
  have h2 : Nat.gcd t b ≤ b := Nat.gcd_le_right _ hb
  refine ⟨h1, Nat.lt_trans ((Nat.log2_lt (by omega)).mpr (Nat.lt_of_le_of_lt h2 hb2)) (by decide)⟩
theorem fdiv_nat {a : Int} {d : Nat} (h : 0 < d) (h2 : d.log2 < 9000) : opFdiv (.int a) (.int d) = some (.sh (.int (a / d))) := by
  simp [opFdiv, opI2, okDiv, h, h2]
theorem lowest_eq (t b : Nat) {g : Dk} (hb : 0 < b) (hb2 : b < 2 ^ 4000) : F__law_lowest [.int t, .int b] g = some (.tup [.int (t / Nat.gcd t b : Nat), .int (b / Nat.gcd t b : Nat)], g) := by
  refine mFn_run rfl ?_
  show (B__law_lowest [some (.sh (.int t)), some (.sh (.int b)), none, none] g).map _ = _
  have h := while_gcd (c := W__law_lowest_0) (b := L__law_lowest_1) (g := g) (fun x y => [some (.sh (.int t)), some (.sh (.int b)), some (.sh (.int x)), some (.sh (.int y))]) (fun x y => by simp (dsimp := false) [W__law_lowest_0, cmp_gt]) (fun x y hy hx => by simp (dsimp := false) [L__law_lowest_1, opMod_int hy, opInt]) b t b (Nat.le_refl _)
  obtain ⟨h1, h2⟩ := gcd_log (t := t) hb hb2
  simp (dsimp := false) [B__law_lowest, opAbs_nat, h, fdiv_nat h1 h2, le_sz, -opAbs_int]
structure Rate (r : Nat × Nat) : Prop where
  one : 1 ≤ r.1
  le : r.1 ≤ r.2
  most : r.2 ≤ 1000
  low : Nat.gcd r.1 r.2 = 1
def rateE (r : Nat × Nat) : D := .tup [.int r.1, .int r.2]
theorem lowest_rate {t b : Nat} (h1 : 1 ≤ t) (h2 : t ≤ b) (h3 : b ≤ 1000) : Rate (t / Nat.gcd t b, b / Nat.gcd t b) := by
  have hg : 0 < Nat.gcd t b := Nat.gcd_pos_of_pos_left _ h1
  have hd1 : Nat.gcd t b ∣ t := Nat.gcd_dvd_left _ _
  exact ⟨Nat.div_pos (Nat.le_of_dvd h1 hd1) hg, Nat.div_le_div_right h2, Nat.le_trans (Nat.div_le_self _ _) h3, Nat.gcd_div_gcd_div_gcd_of_pos_left h1⟩
def someRates : List (Nat × Nat) := [(1, 2), (1, 3), (2, 3), (1, 4), (3, 4), (1, 2), (1, 1), (1, 1000), (999, 1000)]
theorem someRates_ok : ∀ r ∈ someRates, 1 ≤ r.1 ∧ r.1 ≤ r.2 ∧ r.2 ≤ 1000 ∧ Nat.gcd r.1 r.2 = 1 := by decide +kernel
theorem rate_ok {n : Nat} {g : Dk} (ok : Ok (n + 3) g) : ∃ r g', F__law_rate [.obj 0] g = some (rateE r, g') ∧ Rate r ∧ Ok n g' := by
  have : ∃ d g', F__law_rate [.obj 0] g = some (d, g') ∧ ∃ r, d = rateE r ∧ Rate r ∧ Ok n g' := by
    refine mFn_wp rfl ?_
    show wp (B__law_rate [some (.sh (.obj 0)), none, none, none] g) _
    obtain ⟨a, g1, e1, a0, a1, ok1⟩ := next_ok (m := 12) (n := n + 2) ok (by decide) (by decide)
    by_cases h : a < 9
    · obtain ⟨d, e2, hm⟩ := atI_some (l := someRates.map rateE) a0 (by show a < 9; exact h)
      have hm2 := getI e2
      obtain ⟨r, hr, rfl⟩ := List.mem_map.mp hm2
      have := someRates_ok r hr
      have e2 : atI [D.tup [.int 1, .int 2], .tup [.int 1, .int 3], .tup [.int 2, .int 3], .tup [.int 1, .int 4], .tup [.int 3, .int 4], .tup [.int 1, .int 2], .tup [.int 1, .int 1], .tup [.int 1, .int 1000], .tup [.int 999, .int 1000]] a = some (rateE r) := e2
      simp (dsimp := false) [B__law_rate, e1, cmp_lt, h, le_sz, e2, -Prod.exists]
      exact ⟨r, rfl, ⟨this.1, this.2.1, this.2.2.1, this.2.2.2⟩, ok1.mono (by omega)⟩
    · obtain ⟨b, g2, e2, b0, b1, ok2⟩ := next_ok (m := 1000) (n := n + 1) (g := g1) ok1 (by decide) (by decide)
      obtain ⟨c, g3, e3, c0, c1, ok3⟩ := next_ok (m := 1 + b) (n := n) (g := g2) ok2 (by omega) (by omega)
      obtain ⟨bn, rfl⟩ := Int.eq_ofNat_of_zero_le b0
      obtain ⟨cn, rfl⟩ := Int.eq_ofNat_of_zero_le c0
      have e4 := lowest_eq (1 + cn) (1 + bn) (g := g3) (by omega) (Nat.lt_of_lt_of_le (show 1 + bn < 2 ^ 11 by omega) (Nat.pow_le_pow_right (by decide) (by decide)))
      rw [show (((1 + cn : Nat) : Int)) = 1 + (cn : Int) by omega, show (((1 + bn : Nat) : Int)) = 1 + (bn : Int) by omega] at e4
      simp (dsimp := false) [B__law_rate, e1, cmp_lt, h, le_sz, e2, e3, e4, -Prod.exists]
      exact ⟨((1 + cn) / Nat.gcd (1 + cn) (1 + bn), (1 + bn) / Nat.gcd (1 + cn) (1 + bn)), rfl, lowest_rate (by omega) (by omega) (by omega), ok3⟩
  obtain ⟨d, g', e, r, rfl, h1, h2⟩ := this
  exact ⟨r, g', e, h1, h2⟩
/-! ### is it a rate -/
def rateB (lo hi : Int) : D → Bool
  | .tup [.int a, .int b] => (decide (1 ≤ b) && decide (b ≤ hi)) && (decide (lo ≤ a) && decide (a ≤ b)) && decide (Nat.gcd a.natAbs b.natAbs = 1)
  | _ => false
theorem whole_of {lo hi : Int} {d : D} (h : wholeB lo hi d = true) : ∃ i, d = .int i ∧ lo ≤ i ∧ i ≤ hi := by
  cases d with
  | int i => simp only [wholeB, Bool.and_eq_true, decide_eq_true_eq] at h; exact ⟨i, rfl, h⟩
  | _ => cases h
theorem rateB_no2 {lo hi : Int} {a b : D} (h : wholeB 1 hi b = false) : rateB lo hi (.tup [a, b]) = false := by
  unfold rateB
  split
  · rename_i e; cases e; simp only [wholeB] at h; simp [h]
  · rfl
theorem rateB_no1 {lo hi q : Int} {a : D} (h : wholeB lo q a = false) : rateB lo hi (.tup [a, .int q]) = false := by
  unfold rateB
  split
  · rename_i e; cases e; simp only [wholeB] at h; simp [h]
  · rfl
theorem isRate_eq {v : D} {N k : Nat} {g : Dk} (h : Fi N k v) : F_is_rate [v] g = some (.bl (rateB 1 1000 v), g) := by
  have ho := h.nobj
  refine mFn_run rfl ?_
  show (B_is_rate [some (.sh v)] g).map _ = _
  cases v with
  | tup m =>
    match m, h with
    | [], h => simp (dsimp := false) [B_is_rate, opIsi, notObj, Kd.is, opNe_int, rateB]
    | [_], h => simp (dsimp := false) [B_is_rate, opIsi, notObj, Kd.is, opNe_int, rateB]
    | [a, b], h =>
      have e1 := isWhole_eq (d := b) (lo := 1) (hi := 1000) (g := g) (h.in_tup (d := b) (by simp)).nobj
      cases hb : wholeB 1 1000 b with
      | false => simp (dsimp := false) [B_is_rate, opIsi, notObj, Kd.is, opNe_int, e1, hb, rateB_no2 hb]
      | true =>
        obtain ⟨q, rfl, q1, q2⟩ := whole_of hb
        have e2 := isWhole_eq (d := a) (lo := 1) (hi := q) (g := g) (h.in_tup (d := a) (by simp)).nobj
        cases ha : wholeB 1 q a with
        | false => simp (dsimp := false) [B_is_rate, opIsi, notObj, Kd.is, opNe_int, e1, hb, e2, ha, rateB_no1 ha]
        | true =>
          obtain ⟨p, rfl, p1, p2⟩ := whole_of ha
          obtain ⟨qn, rfl⟩ := Int.eq_ofNat_of_zero_le (show 0 ≤ q by omega)
          obtain ⟨pn, rfl⟩ := Int.eq_ofNat_of_zero_le (show 0 ≤ p by omega)
          simp (dsimp := false) [B_is_rate, opIsi, notObj, Kd.is, opNe_int, e1, hb, e2, ha, common_eq, opEq_int, rateB, q1, q2, p1, p2]
          omega
    | a :: b :: c :: r, h =>
      have : ¬ (((r.length : Int) + 1 + 1 + 1) = 2) := by omega
      simp (dsimp := false) [B_is_rate, opIsi, notObj, Kd.is, opNe_int, rateB, this]
  | obj _ => cases ho
  | dcn _ => cases ho
  | _ => simp (dsimp := false) [B_is_rate, opIsi, notObj, Kd.is, rateB]
end DL
namespace DL
open PySem PySem.Spec PyProof.Rows L2
noncomputable def B_united : M Dk Fl := (mRet (mUn opTuple (mUn opSS2 (mOp opAdd (mVar 0) (mVar 1)))))
noncomputable def F_united : Fn Dk := mFn 2 2 B_united
noncomputable def B__law_plan_of (r__law_plan_of : Fn Dk) : M Dk Fl := (mSeq (mSet 4 (mOp opSub (mOp opMul2 (mC (.int 2)) (mUn opLen (mVar 2))) (mC (.int 1)))) (mSeq (mSet 5 (mCall F__law_next (mCons (mVar 0) (mCons (mC (.int 8)) mNil)))) (mSeq (mIf (mAnd (mTest (mOp (opCmp .Lt) (mVar 5) (mC (.int 4)))) (mTest (mOp (opCmp .Gt) (mVar 3) (mVar 4)))) (mSeq (mSet 11 (mCall F__law_one (mCons (mVar 0) (mCons (mCall F__law_columns (mCons (mVar 1) (mCons (mVar 2) mNil))) mNil)))) (mRet (mTup (mCons (mC (.str "thin")) (mCons (mCall r__law_plan_of (mCons (mVar 0) (mCons (mVar 1) (mCons (mVar 2) (mCons (mOp opSub (mVar 3) (mC (.int 1))) mNil))))) (mCons (mVar 11) (mCons (mCall F__law_rate (mCons (mVar 0) mNil)) mNil))))))) mNext) (mSeq (mIf (mAnd (mTest (mOp (opCmp .Lt) (mVar 5) (mC (.int 6)))) (mTest (mOp (opCmp .Gt) (mVar 3) (mOp opMul2 (mC (.int 2)) (mVar 4))))) (mSeq (mSet 12 (mShr (mOp opAdd (mVar 4) (mCall F__law_next (mCons (mVar 0) (mCons (mOp opSub (mVar 3) (mOp opMul2 (mC (.int 2)) (mVar 4))) mNil)))))) (mSeq (mSet 10 (mCall r__law_plan_of (mCons (mVar 0) (mCons (mVar 1) (mCons (mVar 2) (mCons (mVar 12) mNil)))))) (mRet (mTup (mCons (mOp opIx (mLst (mCons (mC (.str "either")) (mCons (mC (.str "meet")) mNil))) (mOp opSub (mVar 5) (mC (.int 4)))) (mCons (mVar 10) (mCons (mCall r__law_plan_of (mCons (mVar 0) (mCons (mVar 1) (mCons (mVar 2) (mCons (mOp opSub (mOp opSub (mVar 3) (mC (.int 1))) (mVar 12)) mNil))))) mNil))))))) mNext) (mSeq (mIf (mTest (mOp opEq (mUn opLen (mVar 2)) (mC (.int 1)))) (mRet (mTup (mCons (mC (.str "all")) (mCons (mOp opIx (mVar 2) (mC (.int 0))) mNil)))) mNext) (mSeq (mSet 6 (mShr (mOp opAdd (mC (.int 1)) (mCall F__law_next (mCons (mVar 0) (mCons (mOp opSub (mUn opLen (mVar 2)) (mC (.int 1))) mNil)))))) (mSeq (mSet 7 (mOp opEq (mCall F__law_next (mCons (mVar 0) (mCons (mC (.int 2)) mNil))) (mC (.int 0)))) (mSeq (mUnp (.tp [(.nm 13), (.nm 14)]) (mIf (mTest (mVar 7)) (mTup (mCons (mSl (mVar 2) mNoP (mPart (mVar 6))) (mCons (mSl (mVar 2) (mPart (mVar 6)) mNoP) mNil))) (mTup (mCons (mSl (mVar 2) (mPart (mVar 6)) mNoP) (mCons (mSl (mVar 2) mNoP (mPart (mVar 6))) mNil))))) (mSeq (mSet 8 (mOp opSub (mOp opSub (mOp opSub (mVar 3) (mC (.int 1))) (mOp opSub (mOp opMul2 (mC (.int 2)) (mUn opLen (mVar 13))) (mC (.int 1)))) (mOp opSub (mOp opMul2 (mC (.int 2)) (mUn opLen (mVar 14))) (mC (.int 1))))) (mSeq (mIf (mAnd (mTest (mOp (opCmp .Gt) (mVar 8) (mC (.int 1)))) (mTest (mOp opEq (mCall F__law_next (mCons (mVar 0) (mCons (mC (.int 3)) mNil))) (mC (.int 0))))) (mPar 14 8 (mUn opTuple (mUn opSS2 (mOp opAdd (mVar 14) (mSl (mVar 13) mNoP (mPart (mC (.int 1))))))) (mOp opSub (mVar 8) (mC (.int 2)))) mNext) (mSeq (mSet 9 (mCall F__law_next (mCons (mVar 0) (mCons (mOp opAdd (mVar 8) (mC (.int 1))) mNil)))) (mSeq (mSet 10 (mCall r__law_plan_of (mCons (mVar 0) (mCons (mVar 1) (mCons (mVar 13) (mCons (mOp opAdd (mOp opSub (mOp opMul2 (mC (.int 2)) (mUn opLen (mVar 13))) (mC (.int 1))) (mVar 9)) mNil)))))) (mRet (mTup (mCons (mC (.str "join")) (mCons (mVar 10) (mCons (mCall r__law_plan_of (mCons (mVar 0) (mCons (mVar 1) (mCons (mVar 14) (mCons (mOp opSub (mOp opAdd (mOp opSub (mOp opMul2 (mC (.int 2)) (mUn opLen (mVar 14))) (mC (.int 1))) (mVar 8)) (mVar 9)) mNil))))) mNil)))))))))))))))))
noncomputable def F__law_plan_of : Nat → Fn Dk
  | 0 => fun _ _ => none
  | k + 1 => mFn 4 15 (B__law_plan_of (F__law_plan_of k))
abbrev fu__law_plan_of : Nat := 30
noncomputable def C__law_any_frame_0 : M Dk S := (mLc (srcSeq (mOp opIx (mVar 1) (mC (.int 1)))) (.tp [(.nm 4), (.nm 5)]) [4, 5] mYes (mVar 4))
noncomputable def C__law_any_frame_1 : M Dk S := (mLc (srcRange1 (mVar 3)) (.nm 6) [6] mYes (mCall F__law_one (mCons (mVar 0) (mCons (mVar 2) mNil))))
noncomputable def B__law_any_frame : M Dk Fl := (mSeq (mSet 2 (mShr C__law_any_frame_0)) (mSeq (mSet 3 (mShr (mOp opAdd (mC (.int 1)) (mCall F__law_next (mCons (mVar 0) (mCons (mC (.int 6)) mNil)))))) (mRet (mUn opTuple (mUn opSS2 C__law_any_frame_1)))))
noncomputable def F__law_any_frame : Fn Dk := mFn 2 7 B__law_any_frame
noncomputable def B__law_plan : M Dk Fl := (mSeq (mSet 2 (mCall F__law_any_frame (mCons (mVar 0) (mCons (mVar 1) mNil)))) (mSeq (mSet 3 (mOp opSub (mOp opMul2 (mC (.int 2)) (mUn opLen (mVar 2))) (mC (.int 1)))) (mRet (mCall (F__law_plan_of fu__law_plan_of) (mCons (mVar 0) (mCons (mVar 1) (mCons (mVar 2) (mCons (mOp opAdd (mVar 3) (mCall F__law_next (mCons (mVar 0) (mCons (mOp opSub (mC (.int 13)) (mVar 3)) mNil)))) mNil))))))))
noncomputable def F__law_plan : Fn Dk := mFn 2 4 B__law_plan
@[simp] theorem at2 {a b c : D} {l : List D} : atI (a :: b :: c :: l) 2 = some c := by
  obtain ⟨d, e, h⟩ := atI_some (l := a :: b :: c :: l) (i := 2) (by decide) (by simp; omega)
  rw [e, ← h]; rfl
@[simp] theorem at3 {a b c d : D} {l : List D} : atI (a :: b :: c :: d :: l) 3 = some d := by
  obtain ⟨x, e, h⟩ := atI_some (l := a :: b :: c :: d :: l) (i := 3) (by decide) (by simp; omega)
  rw [e, ← h]; rfl
/-! ### plans -/
inductive W2 where
  | join | either | meet
  deriving DecidableEq
def W2.nm : W2 → Str
  | .join => "join"
  | .either => "either"
  | .meet => "meet"
inductive Plan where
  | all (t : Str)
  | thin (p : Plan) (c : Str) (r : Nat × Nat)
  | two (w : W2) (p q : Plan)
def planE : Plan → D
  | .all t => .tup [.str "all", .str t]
  | .thin p c r => .tup [.str "thin", planE p, .str c, rateE r]
  | .two w p q => .tup [.str w.nm, planE p, planE q]
def Plan.frame : Plan → List Str
  | .all t => [t]
  | .thin p _ _ => p.frame
  | .two w p q => if w = .join then ssT (p.frame ++ q.frame) else p.frame
def Plan.size : Plan → Nat
  | .all _ => 1
  | .thin p _ _ => p.size + 1
  | .two _ p q => p.size + q.size + 1
def PlanOk (hs : List (Str × List Str)) : Plan → Prop
  | .all t => t ∈ hs.map (·.1)
  | .thin p c r => PlanOk hs p ∧ c ∈ colsL hs p.frame ∧ Rate r
  | .two w p q => PlanOk hs p ∧ PlanOk hs q ∧ (w = .join ∨ p.frame = q.frame)
/-! ### frames, ascending -/
theorem tx_inj {a b : List Str} (h : tx a = tx b) : a = b := by
  have : (tx a).map strD = (tx b).map strD := by rw [h]
  rw [tx, tx, List.map_map, List.map_map] at this
  exact ((List.map_id a).symm.trans this).trans (List.map_id b)
theorem asc_eq {a b : List Str} (ha : Asc (tx a)) (hb : Asc (tx b)) (h : ∀ x, x ∈ a ↔ x ∈ b) : a = b := by
  refine tx_inj (asc_one ha hb fun y => ?_)
  simp only [tx, List.mem_map]
  constructor
  · rintro ⟨x, hx, rfl⟩; exact ⟨x, (h x).mp hx, rfl⟩
  · rintro ⟨x, hx, rfl⟩; exact ⟨x, (h x).mpr hx, rfl⟩
theorem asc_sub {a b : List Str} (h : a.Sublist b) (hb : Asc (tx b)) : Asc (tx a) := by
  unfold Asc at *
  rw [tx, List.pairwise_map] at *
  exact hb.sublist h
theorem asc_few {a L : List Str} (ha : Asc (tx a)) (h : ∀ x ∈ a, x ∈ L) : a.length ≤ L.length := by
  have e : a = (ssT L).filter fun x => decide (x ∈ a) := by
    refine asc_eq ha (asc_sub List.filter_sublist (ssT_asc L)) fun x => ?_
    simp only [List.mem_filter, ssT_mem, decide_eq_true_eq]
    exact ⟨fun hx => ⟨h x hx, hx⟩, fun hx => hx.2⟩
  rw [e]
  exact Nat.le_trans (List.length_filter_le _ _) (ssT_len L)
theorem opSS2_tx {l : List Str} (h : l.length < 64) : opSS2 (.tup (tx l)) = some (.ow (.lst (tx (ssT l)))) := by simp only [opSS2, okSS_strs h, true_or, if_true, ssT_eq]
theorem opSS2_lx {l : List Str} (h : l.length < 64) : opSS2 (.lst (tx l)) = some (.ow (.lst (tx (ssT l)))) := by simp only [opSS2, okSS_strs h, true_or, if_true, ssT_eq]
theorem Frame.len {dl : List (Str × Str)} {hs : List (Str × List Str)} {fr : List Str} (hh : Heads dl hs) (h : Frame hs fr) : fr.length ≤ 4 := by
  have := asc_few h.asc h.sub
  rw [List.length_map] at this
  have := hh.few
  omega
theorem Frame.of {dl : List (Str × Str)} {hs : List (Str × List Str)} {fr : List Str} (hh : Heads dl hs) (h1 : fr ≠ []) (h2 : Asc (tx fr)) (h3 : ∀ x ∈ fr, x ∈ hs.map (·.1)) : Frame hs fr := ⟨h1, h2, h3, by
  have := asc_few h2 h3
  rw [List.length_map] at this
  have := hh.few
  omega⟩
section
variable {dl : List (Str × Str)} {hs : List (Str × List Str)} {g : Dk}
theorem plan_frame (hh : Heads dl hs) : ∀ p, PlanOk hs p → Frame hs p.frame
  | .all t, h => Frame.of hh (by simp [Plan.frame]) (by simp [Plan.frame, tx, Asc]) (fun x hx => by simp [Plan.frame] at hx; subst hx; exact h)
  | .thin p c r, h => plan_frame hh p h.1
  | .two w p q, h => by
    have hp := plan_frame hh p h.1
    have hq := plan_frame hh q h.2.1
    simp only [Plan.frame]
    split
    · refine Frame.of hh (ssT_ne fun e => hp.ne (List.append_eq_nil_iff.mp e).1) (ssT_asc _) fun x hx => ?_
      rcases List.mem_append.mp (ssT_mem.mp hx) with h | h
      · exact hp.sub x h
      · exact hq.sub x h
    · exact hp
theorem united_eq {a b : List Str} (h : a.length + b.length < 64) : F_united [.tup (tx a), .tup (tx b)] g = some (.tup (tx (ssT (a ++ b))), g) := by
  refine mFn_run rfl ?_
  show (B_united [some (.sh (.tup (tx a))), some (.sh (.tup (tx b)))] g).map _ = _
  have e1 : opAdd (.tup (tx a)) (.tup (tx b)) = some (.sh (.tup (tx (a ++ b)))) := by
    rw [opAdd_tup (by simp [sizeLine_eq]; omega)]
    simp [tx]
  have e2 := opSS2_tx (l := a ++ b) (by simpa using h)
  have hl := ssT_len (a ++ b)
  rw [List.length_append] at hl
  have hz : (ssT (a ++ b)).length ≤ sizeLine := le_sz (by omega)
  simp only [tx] at e1 e2 ⊢
  simp (dsimp := false) [B_united, e1, e2, hz, -List.map_append]
end
end DL
namespace DL
open PySem PySem.Spec PyProof.Rows L2
theorem mul_small {a b : Int} (ha : a.natAbs ≤ 400000) (hb : b.natAbs ≤ 400000) : opMul2 (.int a) (.int b) = some (.sh (.int (a * b))) := by
  have h1 := Nat.log2_le_self a.natAbs
  have h2 := Nat.log2_le_self b.natAbs
  have h : okMul a b = true := by simp only [okMul, decide_eq_true_eq]; omega
  simp only [opMul2, opMul, h, if_true]
@[simp] theorem opSub_int (a b : Int) : opSub (.int a) (.int b) = some (.sh (.int (a - b))) := by simp [opSub, opI2]
theorem cut_from {l : List D} {n : Nat} : cutD l (some (n : Int)) none = l.drop n := by
  unfold cutD
  have h1 : HT.sIx l.length 0 (some (n : Int)) = min n l.length := HT.sIx_nat l.length 0 n
  have h2 : HT.sIx l.length l.length none = l.length := rfl
  rw [h1, h2]
  rcases Nat.le_total n l.length with h | h
  · rw [Nat.min_eq_left h, List.take_of_length_le (by simp)]
  · rw [Nat.min_eq_right h, List.drop_eq_nil_of_le h, List.drop_eq_nil_of_le (Nat.le_refl _), List.take_nil]
theorem txcut_to {l : List Str} {n : Nat} : cutD (tx l) none (some (n : Int)) = tx (l.take n) := by rw [cut_to, tx, tx, List.map_take]
theorem txcut_from {l : List Str} {n : Nat} : cutD (tx l) (some (n : Int)) none = tx (l.drop n) := by rw [cut_from, tx, tx, List.map_drop]
section
variable {dl : List (Str × Str)} {hs : List (Str × List Str)}
theorem cols_ne (hh : Heads dl hs) {fr : List Str} (h : Frame hs fr) : colsL hs fr ≠ [] := by
  obtain ⟨x, hx⟩ := List.exists_mem_of_ne_nil fr h.ne
  obtain ⟨p, hp, e⟩ := List.mem_map.mp (h.sub x hx)
  refine ssT_ne fun he => ?_
  obtain ⟨c, hc⟩ := List.exists_mem_of_ne_nil _ (hh.cne p hp)
  have : c ∈ (hs.filter fun p => decide (p.1 ∈ fr)).flatMap (·.2) := List.mem_flatMap.mpr ⟨p, List.mem_filter.mpr ⟨hp, by simp [e, hx]⟩, hc⟩
  rw [he] at this
  cases this
theorem cols_len (hd : Dials dl) (hh : Heads dl hs) {fr : List Str} : (colsL hs fr).length ≤ 5 := by
  have := asc_few (ssT_asc _) (cols_in (fr := fr) hh)
  rw [List.length_map] at this
  have := hd.few
  unfold colsL at *
  omega
theorem sub_frame (hh : Heads dl hs) {fr a : List Str} (h : Frame hs fr) (hs' : a.Sublist fr) (hn : a ≠ []) : Frame hs a := Frame.of hh hn (asc_sub hs' h.asc) fun x hx => h.sub x (hs'.subset hx)
noncomputable def pTail (r__law_plan_of : Fn Dk) : M Dk Fl := (mSeq (mSet 9 (mCall F__law_next (mCons (mVar 0) (mCons (mOp opAdd (mVar 8) (mC (.int 1))) mNil)))) (mSeq (mSet 10 (mCall r__law_plan_of (mCons (mVar 0) (mCons (mVar 1) (mCons (mVar 13) (mCons (mOp opAdd (mOp opSub (mOp opMul2 (mC (.int 2)) (mUn opLen (mVar 13))) (mC (.int 1))) (mVar 9)) mNil)))))) (mRet (mTup (mCons (mC (.str "join")) (mCons (mVar 10) (mCons (mCall r__law_plan_of (mCons (mVar 0) (mCons (mVar 1) (mCons (mVar 14) (mCons (mOp opSub (mOp opAdd (mOp opSub (mOp opMul2 (mC (.int 2)) (mUn opLen (mVar 14))) (mC (.int 1))) (mVar 8)) (mVar 9)) mNil))))) mNil)))))))
noncomputable def pMid (r__law_plan_of : Fn Dk) : M Dk Fl := (mSeq (mSet 8 (mOp opSub (mOp opSub (mOp opSub (mVar 3) (mC (.int 1))) (mOp opSub (mOp opMul2 (mC (.int 2)) (mUn opLen (mVar 13))) (mC (.int 1)))) (mOp opSub (mOp opMul2 (mC (.int 2)) (mUn opLen (mVar 14))) (mC (.int 1))))) (mSeq (mIf (mAnd (mTest (mOp (opCmp .Gt) (mVar 8) (mC (.int 1)))) (mTest (mOp opEq (mCall F__law_next (mCons (mVar 0) (mCons (mC (.int 3)) mNil))) (mC (.int 0))))) (mPar 14 8 (mUn opTuple (mUn opSS2 (mOp opAdd (mVar 14) (mSl (mVar 13) mNoP (mPart (mC (.int 1))))))) (mOp opSub (mVar 8) (mC (.int 2)))) mNext) (pTail r__law_plan_of)))
noncomputable def pEnd (r__law_plan_of : Fn Dk) : M Dk Fl := (mSeq (mIf (mTest (mOp opEq (mUn opLen (mVar 2)) (mC (.int 1)))) (mRet (mTup (mCons (mC (.str "all")) (mCons (mOp opIx (mVar 2) (mC (.int 0))) mNil)))) mNext) (mSeq (mSet 6 (mShr (mOp opAdd (mC (.int 1)) (mCall F__law_next (mCons (mVar 0) (mCons (mOp opSub (mUn opLen (mVar 2)) (mC (.int 1))) mNil)))))) (mSeq (mSet 7 (mOp opEq (mCall F__law_next (mCons (mVar 0) (mCons (mC (.int 2)) mNil))) (mC (.int 0)))) (mSeq (mUnp (.tp [(.nm 13), (.nm 14)]) (mIf (mTest (mVar 7)) (mTup (mCons (mSl (mVar 2) mNoP (mPart (mVar 6))) (mCons (mSl (mVar 2) (mPart (mVar 6)) mNoP) mNil))) (mTup (mCons (mSl (mVar 2) (mPart (mVar 6)) mNoP) (mCons (mSl (mVar 2) mNoP (mPart (mVar 6))) mNil))))) (pMid r__law_plan_of)))))
theorem plan_of_parts (r__law_plan_of : Fn Dk) : B__law_plan_of r__law_plan_of = (mSeq (mSet 4 (mOp opSub (mOp opMul2 (mC (.int 2)) (mUn opLen (mVar 2))) (mC (.int 1)))) (mSeq (mSet 5 (mCall F__law_next (mCons (mVar 0) (mCons (mC (.int 8)) mNil)))) (mSeq (mIf (mAnd (mTest (mOp (opCmp .Lt) (mVar 5) (mC (.int 4)))) (mTest (mOp (opCmp .Gt) (mVar 3) (mVar 4)))) (mSeq (mSet 11 (mCall F__law_one (mCons (mVar 0) (mCons (mCall F__law_columns (mCons (mVar 1) (mCons (mVar 2) mNil))) mNil)))) (mRet (mTup (mCons (mC (.str "thin")) (mCons (mCall r__law_plan_of (mCons (mVar 0) (mCons (mVar 1) (mCons (mVar 2) (mCons (mOp opSub (mVar 3) (mC (.int 1))) mNil))))) (mCons (mVar 11) (mCons (mCall F__law_rate (mCons (mVar 0) mNil)) mNil))))))) mNext) (mSeq (mIf (mAnd (mTest (mOp (opCmp .Lt) (mVar 5) (mC (.int 6)))) (mTest (mOp (opCmp .Gt) (mVar 3) (mOp opMul2 (mC (.int 2)) (mVar 4))))) (mSeq (mSet 12 (mShr (mOp opAdd (mVar 4) (mCall F__law_next (mCons (mVar 0) (mCons (mOp opSub (mVar 3) (mOp opMul2 (mC (.int 2)) (mVar 4))) mNil)))))) (mSeq (mSet 10 (mCall r__law_plan_of (mCons (mVar 0) (mCons (mVar 1) (mCons (mVar 2) (mCons (mVar 12) mNil)))))) (mRet (mTup (mCons (mOp opIx (mLst (mCons (mC (.str "either")) (mCons (mC (.str "meet")) mNil))) (mOp opSub (mVar 5) (mC (.int 4)))) (mCons (mVar 10) (mCons (mCall r__law_plan_of (mCons (mVar 0) (mCons (mVar 1) (mCons (mVar 2) (mCons (mOp opSub (mOp opSub (mVar 3) (mC (.int 1))) (mVar 12)) mNil))))) mNil))))))) mNext) (pEnd r__law_plan_of))))) := rfl
def PIH (dl : List (Str × Str)) (hs : List (Str × List Str)) (f : Nat) : Prop := ∀ (room n : Nat) (fr : List Str) (g : Dk), room ≤ f → room ≤ 1000 → Frame hs fr → 2 * fr.length ≤ room + 1 → Ok (n + 6 * room) g → ∃ p g', F__law_plan_of f [.obj 0, schE dl hs, .tup (tx fr), .int room] g = some (planE p, g') ∧ PlanOk hs p ∧ p.frame = fr ∧ p.size ≤ room ∧ Ok n g'
theorem tail_ok {n f : Nat} {fr A B : List Str} {g : Dk} {x2 x3 x4 x5 x6 x7 x9 x10 x11 x12 : Option S} (hd : Dials dl) (hh : Heads dl hs) (hA : Frame hs A) (hB : Frame hs B) (hab : ∀ x, x ∈ A ∨ x ∈ B ↔ x ∈ fr) (hfr : Frame hs fr) (left room : Nat) (hl : left + 2 * A.length + 2 * B.length ≤ room + 1) (hr : room ≤ f + 1) (hr2 : room ≤ 1000) (ih : PIH dl hs f) (ok : Ok (n + 6 * (room - 1) + 1) g) :
    wp (pTail (F__law_plan_of f) [some (.sh (.obj 0)), some (.sh (schE dl hs)), x2, x3, x4, x5, x6, x7, some (.sh (.int left)), x9, x10, x11, x12, some (.sh (.tup (tx A))), some (.sh (.tup (tx B)))] g) fun fl _ g' => ∃ p, fl = .rt (planE p) ∧ PlanOk hs p ∧ p.frame = fr ∧ p.size ≤ room ∧ Ok n g' := by
  have a1 : 0 < A.length := List.length_pos_iff.mpr hA.ne
  have b1 : 0 < B.length := List.length_pos_iff.mpr hB.ne
  have a4 := hA.len hh
  have b4 := hB.len hh
  obtain ⟨q, g1, e1, q0, q1, ok1⟩ := next_ok (m := (left : Int) + 1) (n := n + 6 * (room - 1)) ok (by omega) (by omega)
  obtain ⟨qn, rfl⟩ := Int.eq_ofNat_of_zero_le q0
  obtain ⟨p1, g2, e2, h1, h2, h3, ok2⟩ := ih (2 * A.length - 1 + qn) (n + 6 * (2 * B.length - 1 + left - qn)) A g1 (by omega) (by omega) hA (by omega) (ok1.mono (by omega))
  obtain ⟨p2, g3, e3, k1, k2, k3, ok3⟩ := ih (2 * B.length - 1 + left - qn) n B g2 (by omega) (by omega) hB (by omega) ok2
  rw [show (((2 * A.length - 1 + qn : Nat)) : Int) = 2 * (A.length : Int) - 1 + (qn : Int) by omega] at e2
  rw [show (((2 * B.length - 1 + left - qn : Nat)) : Int) = 2 * (B.length : Int) - 1 + (left : Int) - (qn : Int) by omega] at e3
  have m1 : opMul2 (.int 2) (.int A.length) = some (.sh (.int (2 * (A.length : Int)))) := mul_small (by decide) (by omega)
  have m2 : opMul2 (.int 2) (.int B.length) = some (.sh (.int (2 * (B.length : Int)))) := mul_small (by decide) (by omega)
  have z1 : A.length ≤ sizeLine := le_sz (by omega)
  have z2 : B.length ≤ sizeLine := le_sz (by omega)
  simp only [tx] at e2 e3 ⊢
  simp (dsimp := false) [pTail, e1, e2, e3, m1, m2, z1, z2, le_sz]
  refine ⟨.two .join p1 p2, rfl, ⟨h1, k1, .inl rfl⟩, ?_, by simp only [Plan.size]; omega, ok3⟩
  simp only [Plan.frame, if_true, h2, k2]
  refine asc_eq (ssT_asc _) hfr.asc fun x => ?_
  rw [ssT_mem, List.mem_append]
  exact hab x
theorem mid_ok {n f : Nat} {fr A B : List Str} {g : Dk} {x4 x5 x6 x7 x8 x9 x10 x11 x12 : Option S} (hd : Dials dl) (hh : Heads dl hs) (hA : Frame hs A) (hB : Frame hs B) (hab : ∀ x, x ∈ A ∨ x ∈ B ↔ x ∈ fr) (hfr : Frame hs fr) (left room : Nat) (hl : left + 2 * A.length + 2 * B.length = room + 1) (hr : room ≤ f + 1) (hr2 : room ≤ 1000) (ih : PIH dl hs f) (ok : Ok (n + 6 * (room - 1) + 2) g) :
    wp (pMid (F__law_plan_of f) [some (.sh (.obj 0)), some (.sh (schE dl hs)), some (.sh (.tup (tx fr))), some (.sh (.int room)), x4, x5, x6, x7, x8, x9, x10, x11, x12, some (.sh (.tup (tx A))), some (.sh (.tup (tx B)))] g) fun fl _ g' => ∃ p, fl = .rt (planE p) ∧ PlanOk hs p ∧ p.frame = fr ∧ p.size ≤ room ∧ Ok n g' := by
  have a1 : 0 < A.length := List.length_pos_iff.mpr hA.ne
  have b1 : 0 < B.length := List.length_pos_iff.mpr hB.ne
  have a4 := hA.len hh
  have b4 := hB.len hh
  have m1 : opMul2 (.int 2) (.int A.length) = some (.sh (.int (2 * (A.length : Int)))) := mul_small (by decide) (by omega)
  have m2 : opMul2 (.int 2) (.int B.length) = some (.sh (.int (2 * (B.length : Int)))) := mul_small (by decide) (by omega)
  have z1 : A.length ≤ sizeLine := le_sz (by omega)
  have z2 : B.length ≤ sizeLine := le_sz (by omega)
  have hleft : (room : Int) - 1 - (2 * (A.length : Int) - 1) - (2 * (B.length : Int) - 1) = (left : Int) := by omega
  have ta := fun (x2 x3 x4 x5 x6 x7 x9 x10 x11 x12 : Option S) (ok : Ok (n + 6 * (room - 1) + 1) g) => tail_ok (x2 := x2) (x3 := x3) (x4 := x4) (x5 := x5) (x6 := x6) (x7 := x7) (x9 := x9) (x10 := x10) (x11 := x11) (x12 := x12) hd hh hA hB hab hfr left room (by omega) hr hr2 ih ok
  by_cases hl1 : (1 : Int) < left
  · obtain ⟨q, g1, e1, q0, q1, ok1⟩ := next_ok (m := 3) (n := n + 6 * (room - 1) + 1) ok (by omega) (by omega)
    by_cases hq : q = 0
    · have e2 : opAdd (.tup (tx B)) (.tup (tx (A.take 1))) = some (.sh (.tup (tx (B ++ A.take 1)))) := by
        rw [opAdd_tup (by simp [sizeLine_eq]; omega)]
        simp [tx]
      have hl3 : (B ++ A.take 1).length ≤ 5 := by simp; omega
      have e3 := opSS2_tx (l := B ++ A.take 1) (by omega)
      have hl4 := ssT_len (B ++ A.take 1)
      have z3 : (ssT (B ++ A.take 1)).length ≤ sizeLine := le_sz (by omega)
      have c1 : cutD (tx A) none (some 1) = tx (A.take 1) := txcut_to (n := 1)
      have hB' : Frame hs (ssT (B ++ A.take 1)) := Frame.of hh (ssT_ne fun e => hB.ne (List.append_eq_nil_iff.mp e).1) (ssT_asc _) fun x hx => by
        rcases List.mem_append.mp (ssT_mem.mp hx) with h | h
        · exact hB.sub x h
        · exact hA.sub x (List.mem_of_mem_take h)
      have hab' : ∀ x, x ∈ A ∨ x ∈ ssT (B ++ A.take 1) ↔ x ∈ fr := fun x => by
        rw [ssT_mem, List.mem_append, ← hab x]
        constructor
        · rintro (h | h | h)
          · exact .inl h
          · exact .inr h
          · exact .inl (List.mem_of_mem_take h)
        · rintro (h | h)
          · exact .inl h
          · exact .inr (.inl h)
      have hl5 : (B ++ A.take 1).length = B.length + 1 := by simp; omega
      have hl2 : ((left : Int) - 2) = ((left - 2 : Nat) : Int) := by omega
      have tb := fun (x2 x3 x4 x5 x6 x7 x9 x10 x11 x12 : Option S) => tail_ok (n := n) (g := g1) (x2 := x2) (x3 := x3) (x4 := x4) (x5 := x5) (x6 := x6) (x7 := x7) (x9 := x9) (x10 := x10) (x11 := x11) (x12 := x12) hd hh hA hB' hab' hfr (left - 2) room (by omega) hr hr2 ih ok1
      simp only [tx] at e2 e3 c1 tb ⊢
      simp (dsimp := false) [pMid, m1, m2, z1, z2, hleft, cmp_gt, hl1, e1, hq, opEq_int, c1, e2, e3, z3, hl2, -List.map_append, -List.map_take]
      exact tb _ _ _ _ _ _ _ _ _ _
    · have tb := fun (x2 x3 x4 x5 x6 x7 x9 x10 x11 x12 : Option S) => tail_ok (n := n) (g := g1) (x2 := x2) (x3 := x3) (x4 := x4) (x5 := x5) (x6 := x6) (x7 := x7) (x9 := x9) (x10 := x10) (x11 := x11) (x12 := x12) hd hh hA hB hab hfr left room (by omega) hr hr2 ih ok1
      simp only [tx] at tb ⊢
      simp (dsimp := false) [pMid, m1, m2, z1, z2, hleft, cmp_gt, hl1, e1, hq, opEq_int]
      exact tb _ _ _ _ _ _ _ _ _ _
  · have tb := fun (x2 x3 x4 x5 x6 x7 x9 x10 x11 x12 : Option S) => ta x2 x3 x4 x5 x6 x7 x9 x10 x11 x12 (ok.mono (by omega))
    simp only [tx] at tb ⊢
    simp (dsimp := false) [pMid, m1, m2, z1, z2, hleft, cmp_gt, hl1]
    exact tb _ _ _ _ _ _ _ _ _ _
theorem end_ok {n f : Nat} {fr : List Str} {g : Dk} {x4 x5 x8 x9 x10 x11 x12 : Option S} (hd : Dials dl) (hh : Heads dl hs) (hf : Frame hs fr) (room : Nat) (hl : 2 * fr.length ≤ room + 1) (hr : room ≤ f + 1) (hr2 : room ≤ 1000) (ih : PIH dl hs f) (ok : Ok (n + 6 * room - 1) g) :
    wp (pEnd (F__law_plan_of f) [some (.sh (.obj 0)), some (.sh (schE dl hs)), some (.sh (.tup (tx fr))), some (.sh (.int room)), x4, x5, none, none, x8, x9, x10, x11, x12, none, none] g) fun fl _ g' => ∃ d, fl = .rt d ∧ ∃ p, d = planE p ∧ PlanOk hs p ∧ p.frame = fr ∧ p.size ≤ room ∧ Ok n g' := by
  have f1 : 0 < fr.length := List.length_pos_iff.mpr hf.ne
  have f4 := hf.len hh
  have z1 : fr.length ≤ sizeLine := le_sz (by omega)
  by_cases h1 : fr.length = 1
  · obtain ⟨x, rfl⟩ := List.length_eq_one_iff.mp h1
    simp (dsimp := false) [pEnd, opEq_int, le_sz]
    exact ⟨.all x, rfl, hf.sub x (by simp), rfl, by simp only [Plan.size]; simp at hl; omega, ok.mono (by omega)⟩
  · have h1' : ¬ ((fr.length : Int) = 1) := by omega
    obtain ⟨q, g1, e1, q0, q1, ok1⟩ := next_ok (m := (fr.length : Int) - 1) (n := n + 6 * room - 2) (g := g) (ok.mono (by omega)) (by omega) (by omega)
    obtain ⟨qn, rfl⟩ := Int.eq_ofNat_of_zero_le q0
    obtain ⟨t, g2, e2, t0, t1, ok2⟩ := next_ok (m := 2) (n := n + 6 * room - 3) (g := g1) (ok1.mono (by omega)) (by omega) (by omega)
    have c1 : cutD (tx fr) none (some (1 + (qn : Int))) = tx (fr.take (1 + qn)) := txcut_to (n := 1 + qn)
    have c2 : cutD (tx fr) (some (1 + (qn : Int))) none = tx (fr.drop (1 + qn)) := txcut_from (n := 1 + qn)
    have fA := sub_frame hh hf (List.take_sublist (1 + qn) fr) (fun e => by have := congrArg List.length e; rw [List.length_take, List.length_nil] at this; omega)
    have fB := sub_frame hh hf (List.drop_sublist (1 + qn) fr) (fun e => by have := congrArg List.length e; rw [List.length_drop, List.length_nil] at this; omega)
    have hab : ∀ x, x ∈ fr.take (1 + qn) ∨ x ∈ fr.drop (1 + qn) ↔ x ∈ fr := fun x => by
      rw [← List.mem_append, List.take_append_drop]
    have hlen : (fr.take (1 + qn)).length + (fr.drop (1 + qn)).length = fr.length := by
      rw [← List.length_append, List.take_append_drop]
    by_cases ht : t = 0
    · have mo := fun x4 x5 x6 x7 x8 x9 x10 x11 x12 => mid_ok (n := n) (g := g2) (x4 := x4) (x5 := x5) (x6 := x6) (x7 := x7) (x8 := x8) (x9 := x9) (x10 := x10) (x11 := x11) (x12 := x12) hd hh fA fB hab hf (room + 1 - 2 * fr.length) room (by omega) hr hr2 ih (ok2.mono (by omega))
      simp only [tx] at c1 c2 mo ⊢
      simp (dsimp := false) [pEnd, opEq_int, h1', z1, e1, e2, ht, c1, c2, le_sz, -List.map_take, -List.map_drop]
      refine wp_mono (mo _ _ _ _ _ _ _ _ _) fun fl st g' ⟨p, h1, h2⟩ => ⟨_, h1, p, rfl, h2⟩
    · have mo := fun x4 x5 x6 x7 x8 x9 x10 x11 x12 => mid_ok (n := n) (g := g2) (x4 := x4) (x5 := x5) (x6 := x6) (x7 := x7) (x8 := x8) (x9 := x9) (x10 := x10) (x11 := x11) (x12 := x12) hd hh fB fA (fun x => by rw [or_comm]; exact hab x) hf (room + 1 - 2 * fr.length) room (by omega) hr hr2 ih (ok2.mono (by omega))
      simp only [tx] at c1 c2 mo ⊢
      simp (dsimp := false) [pEnd, opEq_int, h1', z1, e1, e2, ht, c1, c2, le_sz, -List.map_take, -List.map_drop]
      refine wp_mono (mo _ _ _ _ _ _ _ _ _) fun fl st g' ⟨p, h1, h2⟩ => ⟨_, h1, p, rfl, h2⟩
theorem planOf_ok (hd : Dials dl) (hh : Heads dl hs) : ∀ f, PIH dl hs f
  | 0 => fun room n fr g hr _ hf hl _ => by
    have := List.length_pos_iff.mpr hf.ne
    omega
  | f + 1 => fun room n fr g hr hr2 hf hl ok => by
    have ih := planOf_ok hd hh f
    have f1 : 0 < fr.length := List.length_pos_iff.mpr hf.ne
    have f4 := hf.len hh
    have : ∃ d g', F__law_plan_of (f + 1) [.obj 0, schE dl hs, .tup (tx fr), .int room] g = some (d, g') ∧ ∃ p, d = planE p ∧ PlanOk hs p ∧ p.frame = fr ∧ p.size ≤ room ∧ Ok n g' := by
      refine mFn_wp rfl ?_
      show wp (B__law_plan_of (F__law_plan_of f) [some (.sh (.obj 0)), some (.sh (schE dl hs)), some (.sh (.tup (tx fr))), some (.sh (.int room)), none, none, none, none, none, none, none, none, none, none, none] g) _
      rw [plan_of_parts]
      have m1 : opMul2 (.int 2) (.int fr.length) = some (.sh (.int (2 * (fr.length : Int)))) := mul_small (by decide) (by omega)
      have m2 : opMul2 (.int 2) (.int (2 * (fr.length : Int) - 1)) = some (.sh (.int (2 * (2 * (fr.length : Int) - 1)))) := mul_small (by decide) (by omega)
      have z1 : fr.length ≤ sizeLine := le_sz (by omega)
      obtain ⟨w, g1, e1, w0, w1, ok1⟩ := next_ok (m := 8) (n := n + 6 * room - 1) (g := g) (ok.mono (by omega)) (by decide) (by decide)
      by_cases hA : w < 4 ∧ 2 * (fr.length : Int) - 1 < room
      · obtain ⟨cd, g2, e2, hc, ok2⟩ := one_tup (n := n + 6 * room - 2) (g := g1) (ds := tx (colsL hs fr)) (ok1.mono (by omega)) (by simpa using cols_ne hh hf) (by have := cols_len hd hh (fr := fr); simp; omega)
        obtain ⟨c, hcm, rfl⟩ := List.mem_map.mp hc
        obtain ⟨p, g3, e3, h1, h2, h3, ok3⟩ := ih (room - 1) (n + 3) fr g2 (by omega) (by omega) hf (by omega) (ok2.mono (by omega))
        obtain ⟨r, g4, e4, hr4, ok4⟩ := rate_ok (n := n) (g := g3) ok3
        rw [show ((room - 1 : Nat) : Int) = (room : Int) - 1 by omega] at e3
        have lc := lawColumns_eq (fr := fr) (g := g1) hh
        simp only [tx] at lc e2 e3 ⊢
        simp (dsimp := false) [m1, z1, e1, cmp_lt, cmp_gt, hA.1, hA.2, lc, e2, e3, e4, le_sz, -Prod.exists]
        exact ⟨.thin p c r, rfl, ⟨h1, by rw [h2]; exact hcm, hr4⟩, h2, by simp only [Plan.size]; omega, ok4⟩
      · by_cases hB : w < 6 ∧ 2 * (2 * (fr.length : Int) - 1) < room
        · have hw4 : 4 ≤ w := by
            rcases Int.lt_or_le w 4 with h | h
            · exact absurd ⟨h, by omega⟩ hA
            · exact h
          have hA1 : ¬ w < 4 := by omega
          obtain ⟨q, g2, e2, q0, q1, ok2⟩ := next_ok (m := (room : Int) - 2 * (2 * (fr.length : Int) - 1)) (n := n + 6 * room - 2) (g := g1) (ok1.mono (by omega)) (by omega) (by omega)
          obtain ⟨qn, rfl⟩ := Int.eq_ofNat_of_zero_le q0
          obtain ⟨p1, g3, e3, h1, h2, h3, ok3⟩ := ih (2 * fr.length - 1 + qn) (n + 6 * (room - 1 - (2 * fr.length - 1 + qn))) fr g2 (by omega) (by omega) hf (by omega) (ok2.mono (by omega))
          obtain ⟨p2, g4, e4, k1, k2, k3, ok4⟩ := ih (room - 1 - (2 * fr.length - 1 + qn)) n fr g3 (by omega) (by omega) hf (by omega) ok3
          rw [show ((2 * fr.length - 1 + qn : Nat) : Int) = 2 * (fr.length : Int) - 1 + (qn : Int) by omega] at e3
          rw [show ((room - 1 - (2 * fr.length - 1 + qn) : Nat) : Int) = (room : Int) - 1 - (2 * (fr.length : Int) - 1 + (qn : Int)) by omega] at e4
          simp only [tx] at e3 e4 ⊢
          have hw : w = 4 ∨ w = 5 := by omega
          rcases hw with rfl | rfl
          · simp (dsimp := false) [m1, m2, z1, e1, cmp_lt, cmp_gt, hB.2, e2, e3, e4, le_sz]
            exact ⟨.two .either p1 p2, rfl, ⟨h1, k1, .inr (by rw [h2, k2])⟩, by simp [Plan.frame, h2], by simp only [Plan.size]; omega, ok4⟩
          · simp (dsimp := false) [m1, m2, z1, e1, cmp_lt, cmp_gt, hB.2, e2, e3, e4, le_sz]
            exact ⟨.two .meet p1 p2, rfl, ⟨h1, k1, .inr (by rw [h2, k2])⟩, by simp [Plan.frame, h2], by simp only [Plan.size]; omega, ok4⟩
        · have hE := fun x8 x9 x10 x11 x12 => end_ok (n := n) (g := g1) (x4 := some (.sh (.int (2 * (fr.length : Int) - 1)))) (x5 := some (.sh (.int w))) (x8 := x8) (x9 := x9) (x10 := x10) (x11 := x11) (x12 := x12) hd hh hf room hl hr hr2 ih (ok1.mono (by omega))
          simp only [tx] at hE ⊢
          by_cases h4 : w < 4
          · have h5 : ¬ 2 * (fr.length : Int) - 1 < room := fun h => hA ⟨h4, h⟩
            have h6 : w < 6 := by omega
            have h7 : ¬ 2 * (2 * (fr.length : Int) - 1) < room := by omega
            simp (dsimp := false) [m1, m2, z1, e1, cmp_lt, cmp_gt, h4, h5, h6, h7, le_sz]
            exact hE _ _ _ _ _
          · by_cases h6 : w < 6
            · have h7 : ¬ 2 * (2 * (fr.length : Int) - 1) < room := fun h => hB ⟨h6, h⟩
              simp (dsimp := false) [m1, m2, z1, e1, cmp_lt, cmp_gt, h4, h6, h7, le_sz]
              exact hE _ _ _ _ _
            · simp (dsimp := false) [m1, m2, z1, e1, cmp_lt, cmp_gt, h4, h6, le_sz]
              exact hE _ _ _ _ _
    obtain ⟨d, g', e, p, rfl, h⟩ := this
    exact ⟨p, g', e, h⟩
end
end DL
namespace DL
open PySem PySem.Spec PyProof.Rows L2
section
variable {dl : List (Str × Str)} {hs : List (Str × List Str)}
theorem anyFrame_ok {n : Nat} {g : Dk} (hh : Heads dl hs) (ok : Ok (n + 7) g) : ∃ fr g', F__law_any_frame [.obj 0, schE dl hs] g = some (.tup (tx fr), g') ∧ Frame hs fr ∧ Ok n g' := by
  have : ∃ d g', F__law_any_frame [.obj 0, schE dl hs] g = some (d, g') ∧ ∃ fr, d = .tup (tx fr) ∧ Frame hs fr ∧ Ok n g' := by
    refine mFn_wp rfl ?_
    show wp (B__law_any_frame [some (.sh (.obj 0)), some (.sh (schE dl hs)), none, none, none, none, none] g) _
    obtain ⟨names, hn⟩ : ∃ names, names = hs.map (·.1) := ⟨_, rfl⟩
    have hnn : names ≠ [] := by rw [hn]; simpa using hh.ne
    have hnz : names.length ≤ 4 := by rw [hn, List.length_map]; exact hh.few
    have c0 : C__law_any_frame_0 [some (.sh (.obj 0)), some (.sh (.tup [.tup (dl.map dialE), .tup (hs.map headE)])), none, none, none, none, none] g = some (.ow (.lst (hs.map fun p => D.str p.1)), [some (.sh (.obj 0)), some (.sh (.tup [.tup (dl.map dialE), .tup (hs.map headE)])), none, none, none, none, none], g) := by
      unfold C__law_any_frame_0
      exact lc_all hs headE (fun p => D.str p.1) (cells := [.sh (.tup (hs.map headE))]) (by simp) rfl fun p hp => ⟨_, by show asg _ (.tup [.str p.1, .tup (p.2.map D.str)]) _ = _; simp; rfl, rfl, by simp⟩
    have hnt : (hs.map fun p => D.str p.1) = tx names := by rw [hn, tx, List.map_map]; rfl
    rw [hnt] at c0
    obtain ⟨r, g1, e1, r0, r1, ok1⟩ := next_ok (m := 6) (n := n + 6) ok (by decide) (by decide)
    have rr : okR (1 + r) = true := okR_of (by omega) (by omega)
    unfold schE
    simp (dsimp := false) [B__law_any_frame, c0, e1]
    repeat refine wp_thn ?_
    unfold C__law_any_frame_1
    refine lc_wp (fun i acc g => ∃ l : List Str, acc = tx l ∧ l.length = i ∧ (∀ x ∈ l, x ∈ names) ∧ (i ≤ 6 → Ok (n + (6 - i)) g)) (items := rangeD 0 (1 + r).toNat) (cells := []) (by simp (dsimp := false) [rr]) rfl ⟨[], rfl, rfl, fun _ h => (nomatch h), fun _ => ok1⟩ (fun i d acc g hi ⟨l, h1, h2, h3, h4⟩ => ?_) fun acc g ⟨l, h1, h2, h3, h4⟩ => ?_
    · have hil : i < (1 + r).toNat := by have := (List.getElem?_eq_some_iff.mp hi).1; rwa [rangeD_len] at this
      obtain ⟨xd, g2, e2, hx, ok2⟩ := one_lst (n := n + (6 - (i + 1))) (g := g) (ds := tx names) ((h4 (by omega)).mono (by omega)) (by simpa using hnn) (by simp; omega)
      obtain ⟨x, hxm, rfl⟩ := List.mem_map.mp hx
      refine ⟨_, by simp; rfl, ?_⟩
      simp only [tx] at e2 ⊢
      simp (dsimp := false) [e2]
      refine ⟨l ++ [x], by simp [h1, tx], by simp [h2], fun y hy => ?_, fun _ => ok2.mono (by omega)⟩
      rcases List.mem_append.mp hy with h | h
      · exact h3 y h
      · simp at h; subst h; exact hxm
    · subst h1
      rw [rangeD_len] at h2 h4
      have os := opSS2_lx (l := l) (by omega)
      have hl := ssT_len l
      have hz : (ssT l).length ≤ sizeLine := le_sz (by omega)
      simp only [tx] at os ⊢
      simp (dsimp := false) [os, hz, -wp_thn]
      refine ⟨ssT l, rfl, Frame.of hh (ssT_ne fun e => ?_) (ssT_asc _) fun x hx => ?_, (h4 (by omega)).mono (by omega)⟩
      · subst e; simp at h2; omega
      · rw [← hn]; exact h3 x (ssT_mem.mp hx)
  obtain ⟨d, g', e, fr, rfl, h1, h2⟩ := this
  exact ⟨fr, g', e, h1, h2⟩
theorem plan_ok {n : Nat} {g : Dk} (hd : Dials dl) (hh : Heads dl hs) (ok : Ok (n + 80) g) : ∃ p g', F__law_plan [.obj 0, schE dl hs] g = some (planE p, g') ∧ PlanOk hs p ∧ p.size ≤ 12 ∧ Ok n g' := by
  have : ∃ d g', F__law_plan [.obj 0, schE dl hs] g = some (d, g') ∧ ∃ p, d = planE p ∧ PlanOk hs p ∧ p.size ≤ 12 ∧ Ok n g' := by
    refine mFn_wp rfl ?_
    show wp (B__law_plan [some (.sh (.obj 0)), some (.sh (schE dl hs)), none, none] g) _
    obtain ⟨fr, g1, e1, hf, ok1⟩ := anyFrame_ok (n := n + 73) (g := g) hh ok
    have f1 : 0 < fr.length := List.length_pos_iff.mpr hf.ne
    have f4 := hf.len hh
    have m1 : opMul2 (.int 2) (.int fr.length) = some (.sh (.int (2 * (fr.length : Int)))) := mul_small (by decide) (by omega)
    have z1 : fr.length ≤ sizeLine := le_sz (by omega)
    obtain ⟨q, g2, e2, q0, q1, ok2⟩ := next_ok (m := 13 - (2 * (fr.length : Int) - 1)) (n := n + 72) (g := g1) ok1 (by omega) (by omega)
    obtain ⟨qn, rfl⟩ := Int.eq_ofNat_of_zero_le q0
    obtain ⟨p, g3, e3, h1, h2, h3, ok3⟩ := planOf_ok hd hh 30 (2 * fr.length - 1 + qn) n fr g2 (by omega) (by omega) hf (by omega) (ok2.mono (by omega))
    rw [show ((2 * fr.length - 1 + qn : Nat) : Int) = 2 * (fr.length : Int) - 1 + (qn : Int) by omega] at e3
    have e3 : F__law_plan_of fu__law_plan_of [.obj 0, schE dl hs, .tup (tx fr), .int (2 * (fr.length : Int) - 1 + (qn : Int))] g2 = some (planE p, g3) := e3
    simp only [tx] at e1 e3
    simp (dsimp := false) [B__law_plan, e1, m1, z1, e2, e3]
    exact ⟨p, rfl, h1, by omega, ok3⟩
  obtain ⟨d, g', e, p, rfl, h⟩ := this
  exact ⟨p, g', e, h⟩
/-! ### plans may be shown -/
theorem cols_name (hd : Dials dl) (hh : Heads dl hs) {fr : List Str} {c : Str} (h : c ∈ colsL hs fr) : c ∈ colNames := by
  obtain ⟨q, hq, rfl⟩ := List.mem_map.mp (cols_in hh c h)
  exact hd.col q hq
theorem name_head (hh : Heads dl hs) {t : Str} (h : t ∈ hs.map (·.1)) : t ∈ headNames := by
  obtain ⟨q, hq, rfl⟩ := List.mem_map.mp h
  exact hh.name q hq
theorem rate_fi {r : Nat × Nat} (h : Rate r) : Fi 4007 1 (rateE r) := by
  have := h.le
  have := h.most
  refine Fi.list_tup (B := 2000) (L := 2) (fun d hd' => ?_) (by simp) (by decide)
  simp only [List.mem_cons, List.not_mem_nil, or_false] at hd'
  rcases hd' with rfl | rfl
  · exact small_fi (by omega)
  · exact small_fi (by omega)
theorem w2_fi (w : W2) : Fi 62 0 (.str w.nm) := by
  refine fi_str ?_ ?_
  · cases w <;> decide +kernel
  · cases w <;> decide +kernel
theorem fi_all : Fi 62 0 (.str "all") := fi_str (by decide +kernel) (by decide +kernel)
theorem fi_thin : Fi 62 0 (.str "thin") := fi_str (by decide +kernel) (by decide +kernel)
theorem plan_fi (hd : Dials dl) (hh : Heads dl hs) : ∀ p, PlanOk hs p → Fi (4300 * p.size) (p.size + 1) (planE p)
  | .all t, h => by
    have f1 := fi_of (headNames_ok _ (name_head hh h))
    have f0 := fi_all
    refine Fi.tup (k := 1) (fun d hd' => ?_) (by simp only [wts, Plan.size]; have := f1.w; have := f0.w; omega)
    simp only [List.mem_cons, List.not_mem_nil, or_false] at hd'
    rcases hd' with rfl | rfl
    · exact ⟨f0.ok, by have := f0.dp; omega⟩
    · exact ⟨f1.ok, by have := f1.dp; omega⟩
  | .thin p c r, h => by
    have f1 := plan_fi hd hh p h.1
    have f2 := fi_of (colNames_ok _ (cols_name hd hh h.2.1))
    have f3 := rate_fi h.2.2
    have f0 := fi_thin
    refine Fi.tup (k := p.size + 1) (fun d hd' => ?_) (by simp only [wts, Plan.size]; have := f1.w; have := f0.w; have := f2.w; have := f3.w; omega)
    simp only [List.mem_cons, List.not_mem_nil, or_false] at hd'
    rcases hd' with rfl | rfl | rfl | rfl
    · exact ⟨f0.ok, by have := f0.dp; omega⟩
    · exact ⟨f1.ok, by have := f1.dp; omega⟩
    · exact ⟨f2.ok, by have := f2.dp; omega⟩
    · exact ⟨f3.ok, by have := f3.dp; omega⟩
  | .two w p q, h => by
    have f1 := plan_fi hd hh p h.1
    have f2 := plan_fi hd hh q h.2.1
    have f0 := w2_fi w
    refine Fi.tup (k := p.size + q.size + 1) (fun d hd' => ?_) (by simp only [wts, Plan.size]; have := f1.w; have := f0.w; have := f2.w; omega)
    simp only [List.mem_cons, List.not_mem_nil, or_false] at hd'
    rcases hd' with rfl | rfl | rfl
    · exact ⟨f0.ok, by have := f0.dp; omega⟩
    · exact ⟨f1.ok, by have := f1.dp; omega⟩
    · exact ⟨f2.ok, by have := f2.dp; omega⟩
theorem plan_fi12 {p : Plan} (hd : Dials dl) (hh : Heads dl hs) (h : PlanOk hs p) (hz : p.size ≤ 12) : Fi 51600 13 (planE p) := (plan_fi hd hh p h).mono (by omega) (by omega)
end
end DL
namespace DL
open PySem PySem.Spec PyProof.Rows L2
noncomputable def C_tables_in_0 : M Dk S := (mLc (srcSeq (mOp opIx (mVar 0) (mC (.int 1)))) (.nm 1) [1] mYes (mOp opIx (mVar 1) (mC (.int 0))))
noncomputable def B_tables_in : M Dk Fl := (mRet (mUn opTuple C_tables_in_0))
noncomputable def F_tables_in : Fn Dk := mFn 1 2 B_tables_in
/-! ### equal tuples of texts -/
section
variable {dl : List (Str × Str)} {hs : List (Str × List Str)} {g : Dk}
theorem tablesIn_eq (hh : Heads dl hs) : F_tables_in [schE dl hs] g = some (.tup (tx (hs.map (·.1))), g) := by
  refine mFn_run rfl ?_
  show (B_tables_in [some (.sh (schE dl hs)), none] g).map _ = _
  have c0 : C_tables_in_0 [some (.sh (.tup [.tup (dl.map dialE), .tup (hs.map headE)])), none] g = some (.ow (.lst (hs.map fun p => D.str p.1)), [some (.sh (.tup [.tup (dl.map dialE), .tup (hs.map headE)])), none], g) := by
    unfold C_tables_in_0
    exact lc_all hs headE (fun p => D.str p.1) (cells := [.sh (.tup (hs.map headE))]) (by simp) rfl fun p hp => ⟨_, by simp; rfl, rfl, by simp [headE]⟩
  have hnt : (hs.map fun p => D.str p.1) = tx (hs.map (·.1)) := by rw [tx, List.map_map]; rfl
  rw [hnt] at c0
  have hf := hh.few
  obtain ⟨nm, hnm⟩ : ∃ nm, nm = hs.map (·.1) := ⟨_, rfl⟩
  rw [← hnm] at c0 ⊢
  have hz : nm.length ≤ sizeLine := by rw [hnm, List.length_map]; exact le_sz (by omega)
  unfold schE
  simp only [tx] at c0 ⊢
  simp (dsimp := false) [B_tables_in, c0, hz]
/-! ### what a plan is -/
def isAll (w : Str) : Bool := decide (w = "all")
def isThin (w : Str) : Bool := decide (w = "thin")
def isTwo (w : Str) : Bool := decide (w ∈ (["join", "either", "meet"] : List Str))
def isJoin (w : Str) : Bool := decide (w = "join")
def lookAll (hs : List (Str × List Str)) : D → Option (List Str × Nat)
  | .str t => if t ∈ hs.map (·.1) then some ([t], 1) else none
  | _ => none
def colB (hs : List (Str × List Str)) (fr : List Str) : D → Bool
  | .str s => decide (s ∈ colsL hs fr)
  | _ => false
def lookThin (hs : List (Str × List Str)) (c q : D) : Option (List Str × Nat) → Option (List Str × Nat)
  | some (fr, k) => if (colB hs fr c && rateB 1 1000 q) = true then some (fr, k + 1) else none
  | none => none
def lookTwo (w : Str) (a : List Str × Nat) : Option (List Str × Nat) → Option (List Str × Nat)
  | some b => if (isJoin w || decide (a.1 = b.1)) = true then some (ssT (a.1 ++ b.1), 1 + a.2 + b.2) else none
  | none => none
def lookT2 (w : Str) (o : Option (List Str × Nat)) (f : Nat → Option (List Str × Nat)) : Option (List Str × Nat) := match o with
  | some a => lookTwo w a (f a.2)
  | none => none
def look (hs : List (Str × List Str)) : Nat → D → Option (List Str × Nat)
  | r + 1, .tup [.str w, x] => if isAll w = true then lookAll hs x else none
  | r + 1, .tup [.str w, p, c, q] => if isThin w = true then lookThin hs c q (look hs r p) else none
  | r + 1, .tup [.str w, p, q] => if isTwo w = true then lookT2 w (look hs r p) (fun j => look hs (r - j) q) else none
  | _, _ => none
termination_by r => r
end
end DL
namespace DL
open PySem PySem.Spec PyProof.Rows L2
end DL
namespace DL
open PySem PySem.Spec PyProof.Rows L2
end DL
namespace DL
open PySem PySem.Spec PyProof.Rows L2
end DL
namespace DL
open PySem PySem.Spec PyProof.Rows L2
/-! ### runs: d.get, t.index, two generators -/
section
variable {G : Type} {st : Sl} {g : G} {a b c : M G S} {s t : S} {d e : D}
def kGet4 (dd dx : D) (st : Sl) (g : G) : Option D → Option (S × Sl × G)
  | some dk => kRes (getK dd dx dk) st g
  | none => none
@[simp] theorem kGet4_some {dd dx : D} : kGet4 dd dx st g (some e) = kRes (getK dd dx e) st g := nr rfl
def kGet3 (k : S) (dd : D) (st : Sl) (g : G) : Option D → Option (S × Sl × G)
  | some dx => kGet4 dd dx st g (peek k st)
  | none => none
@[simp] theorem kGet3_some {dd : D} : kGet3 s dd st g (some e) = kGet4 dd e st g (peek s st) := nr rfl
def kGet2 (x k : S) (dd : D) (st : Sl) (g : G) : Option (S × Sl × G) := kGet3 k dd st g (peek x st)
@[simp] theorem kGet2_eq {dd : D} : kGet2 s t dd st g = kGet3 t dd st g (peek s st) := nr rfl
def kGet1 (x : S) (fd : M G S) (k : S) (st : Sl) (g : G) : Option (S × Sl × G) := thn (mTake fd st g) (kGet2 x k) .u
@[simp] theorem kGet1_eq : kGet1 s a t st g = thn (mTake a st g) (kGet2 s t) .u := nr rfl
def kGet0 (x : S) (fk fd : M G S) (st : Sl) (g : G) : Option D → Option (S × Sl × G)
  | some (.dct _) => thn (fk st g) (kGet1 x fd) .u
  | _ => none
@[simp] theorem kGet0_dct {kvs : List (D × D)} : kGet0 s a b st g (some (.dct kvs)) = thn (a st g) (kGet1 s b) .u := nr rfl
def kGet (fk fd : M G S) (x : S) (st : Sl) (g : G) : Option (S × Sl × G) := kGet0 x fk fd st g (peek x st)
@[simp] theorem kGet_eq : kGet a b s st g = kGet0 s a b st g (peek s st) := nr rfl
@[simp] theorem r_get2 : mGet2 a b c st g = thn (a st g) (kGet b c) .u := nr (by
  unfold mGet2 thn kGet; congr 1; funext x st g
  cases peek x st with
  | none => rfl
  | some d0 =>
    cases d0 with
    | dct kvs =>
      show bnd (b st g) _ = thn (b st g) (kGet1 x c) .u
      unfold thn kGet1; congr 1; funext k st g
      unfold thn; congr 1; funext dd st g
      unfold kGet2 kGet3 kGet4 kRes
      cases peek x st with
      | none => rfl
      | some dx => cases peek k st <;> rfl
    | _ => rfl)
@[simp] theorem getK_str {dd : D} {kvs : List (D × D)} {k : Str} : getK dd (.dct kvs) (.str k) = some (.sh ((dlook kvs (.str k)).getD dd)) := nr rfl
@[simp] theorem getK_int {dd : D} {kvs : List (D × D)} {k : Int} : getK dd (.dct kvs) (.int k) = some (.sh ((dlook kvs (.int k)).getD dd)) := nr rfl
end
section
variable {G : Type} {st : Sl} {g : G} {a b : M G S} {s t : S} {d e : D}
def kIdx3 (dx : D) (st : Sl) (g : G) : Option D → Option (S × Sl × G)
  | some dk => kRes (opIdx dx dk) st g
  | none => none
@[simp] theorem kIdx3_some : kIdx3 d st g (some e) = kRes (opIdx d e) st g := nr rfl
def kIdx2 (k : S) (st : Sl) (g : G) : Option D → Option (S × Sl × G)
  | some dx => kIdx3 dx st g (peek k st)
  | none => none
@[simp] theorem kIdx2_some : kIdx2 s st g (some e) = kIdx3 e st g (peek s st) := nr rfl
def kIdx1 (x k : S) (st : Sl) (g : G) : Option (S × Sl × G) := kIdx2 k st g (peek x st)
@[simp] theorem kIdx1_eq : kIdx1 s t st g = kIdx2 t st g (peek s st) := nr rfl
def kIdx0 (x : S) (fk : M G S) (st : Sl) (g : G) : Option D → Option (S × Sl × G)
  | some (.tup _) => thn (fk st g) (kIdx1 x) .u
  | _ => none
@[simp] theorem kIdx0_tup {ds : List D} : kIdx0 s a st g (some (.tup ds)) = thn (a st g) (kIdx1 s) .u := nr rfl
def kIdx (fk : M G S) (x : S) (st : Sl) (g : G) : Option (S × Sl × G) := kIdx0 x fk st g (peek x st)
@[simp] theorem kIdx_eq : kIdx a s st g = kIdx0 s a st g (peek s st) := nr rfl
@[simp] theorem r_idx : mIdx a b st g = thn (a st g) (kIdx b) .u := nr (by
  unfold mIdx thn kIdx; congr 1; funext x st g
  cases peek x st with
  | none => rfl
  | some d0 =>
    cases d0 with
    | tup ds =>
      show bnd (b st g) _ = thn (b st g) (kIdx1 x) .u
      unfold thn; congr 1; funext k st g
      unfold kIdx1 kIdx2 kIdx3 kRes
      cases peek x st with
      | none => rfl
      | some dx => cases peek k st <;> rfl
    | _ => rfl)
end
/-! ### two generators, no draws -/
end DL
namespace DL
open PySem PySem.Spec PyProof.Rows L2
/-! ### runs: comprehensions over dicts, sorted(d.items()) -/
end DL
namespace DL
open PySem PySem.Spec PyProof.Rows L2
/-! ### rates as numbers (plain) -/
abbrev Rt := Nat × Nat
def rBelow (a b : Rt) : Prop := a.1 * b.2 < b.1 * a.2
instance (a b : Rt) : Decidable (rBelow a b) := inferInstanceAs (Decidable (a.1 * b.2 < b.1 * a.2))
def one : Rt := (1, 1)
end DL
namespace DL
open PySem PySem.Spec PyProof.Rows L2
/-! ### ways (plain) -/
abbrev Way := List (Str × Rt)
structure WayOk (w : Way) : Prop where
  asc : Asc (tx (w.map (·.1)))
  rate : ∀ p ∈ w, Rate p.2 ∧ p.2 ≠ one
def wval (w : Way) (c : Str) : Rt := ((w.find? fun p => decide (p.1 = c)).map (·.2)).getD one
theorem wval_mem {w : Way} (hn : (w.map (·.1)).Nodup) {p : Str × Rt} (h : p ∈ w) : wval w p.1 = p.2 := by
  induction w with
  | nil => cases h
  | cons q w ih =>
    rw [List.map_cons, List.nodup_cons] at hn
    unfold wval
    rw [List.find?_cons]
    by_cases e : q.1 = p.1
    · simp only [e, decide_true]
      rcases List.mem_cons.mp h with r | r
      · rw [r]; rfl
      · exact absurd (e ▸ List.mem_map_of_mem (f := fun x : Str × Rt => x.1) r) hn.1
    · simp only [e, decide_false]
      rcases List.mem_cons.mp h with r | r
      · exact absurd (by rw [r]) e
      · exact ih hn.2 r
theorem wval_not {w : Way} {c : Str} (h : c ∉ w.map (·.1)) : wval w c = one := by
  unfold wval
  have : (w.find? fun p => decide (p.1 = c)) = none := List.find?_eq_none.mpr fun p hp => by
    simp only [decide_eq_true_eq]
    exact fun e => h (e ▸ List.mem_map_of_mem (f := fun x : Str × Rt => x.1) hp)
  rw [this]; rfl
theorem WayOk.nd {w : Way} (h : WayOk w) : (w.map (·.1)).Nodup := asc_nodup h.asc
theorem WayOk.mem_iff {w : Way} (h : WayOk w) {c : Str} : c ∈ w.map (·.1) ↔ wval w c ≠ one := by
  constructor
  · intro hc
    obtain ⟨p, hp, rfl⟩ := List.mem_map.mp hc
    rw [wval_mem h.nd hp]
    exact (h.rate p hp).2
  · intro hc
    cases Classical.em (c ∈ w.map (·.1)) with
    | inl h => exact h
    | inr h => exact absurd (wval_not h) hc
end DL
namespace DL
open PySem PySem.Spec PyProof.Rows L2
/-! ### the widest of some ways (plain) -/
end DL
namespace DL
open PySem PySem.Spec PyProof.Rows L2
/-! ### ways as data, and sets of them -/
def pairE (p : Str × Rt) : D := .tup [.str p.1, rateE p.2]
def wayE (w : Way) : D := .tup (w.map pairE)
theorem nk_pair (p : Str × Rt) : nkD (pairE p) = some (.tup [.text p.1, .tup [.num p.2.1, .num p.2.2]]) := by
  simp [pairE, rateE, nkD, nksD]
theorem nk_pairs : ∀ w : Way, nksD (w.map pairE) = some (w.map fun p => NestedKey.tup [.text p.1, .tup [.num p.2.1, .num p.2.2]])
  | [] => rfl
  | p :: w => by simp only [List.map_cons, nksD, nk_pair, nk_pairs w]
theorem nkDepth_pairs : ∀ w : Way, NestedKey.depthAll (w.map fun p => NestedKey.tup [.text p.1, .tup [.num p.2.1, .num p.2.2]]) ≤ 2 := by
  intro w
  induction w with
  | nil => simp [NestedKey.depthAll]
  | cons p w ih => simp [NestedKey.depthAll, NestedKey.depth]; omega
theorem alike_pairs : ∀ a b : Way, PySem.W.alikeAll (D.pys (a.map pairE)) (D.pys (b.map pairE)) = true
  | [], _ => by simp [D.pys, PySem.W.alikeAll]
  | _ :: _, [] => by simp [D.pys, PySem.W.alikeAll]
  | p :: a, q :: b => by
    have := alike_pairs a b
    simp only [List.map_cons, D.pys, PySem.W.alikeAll, this, Bool.and_true]
    simp [pairE, rateE, D.py, D.pys, PySem.W.alike, PySem.W.alikeAll]
theorem alike_ways (a b : Way) : PySem.W.alike (wayE a).py (wayE b).py = true := by
  simp only [wayE, D.py, PySem.W.alike, alike_pairs]
theorem okSN_ways (l : List Way) (h : l.length < 64) : okSN (l.map wayE) = true := by
  simp only [okSN, Bool.and_eq_true, List.all_eq_true, decide_eq_true_eq, List.length_map]
  refine ⟨⟨fun d hd => ?_, fun a ha b hb => ?_⟩, h⟩
  · obtain ⟨r, _, rfl⟩ := List.mem_map.mp hd
    have := nkDepth_pairs r
    have e : nkD (wayE r) = some (.tup (r.map fun p => NestedKey.tup [.text p.1, .tup [.num p.2.1, .num p.2.2]])) := by simp only [wayE, nkD, nk_pairs, Option.map_some]
    rw [e]
    refine decide_eq_true (p := NestedKey.depth (.tup (r.map fun p => NestedKey.tup [.text p.1, .tup [.num p.2.1, .num p.2.2]])) ≤ 8) ?_
    simp only [NestedKey.depth]
    omega
  · obtain ⟨r, _, rfl⟩ := List.mem_map.mp ha
    obtain ⟨q, _, rfl⟩ := List.mem_map.mp hb
    exact alike_ways r q
theorem injT_ways (l : List Way) : InjT (l.map wayE) := fun a ha b hb h1 h2 => by
  obtain ⟨r, _, rfl⟩ := List.mem_map.mp ha
  obtain ⟨q, _, rfl⟩ := List.mem_map.mp hb
  obtain ⟨ks, sn⟩ := okSN_keys (okSN_ways [r, q] (by simp))
  exact sn.inj _ (by simp) _ (by simp) h1 h2
def unPair : D → Str × Rt
  | .tup [.str c, .tup [.int a, .int b]] => (c, (a.toNat, b.toNat))
  | _ => ("", one)
def unWay : D → Way
  | .tup l => l.map unPair
  | _ => []
theorem unWay_wayE (w : Way) : unWay (wayE w) = w := by
  simp only [unWay, wayE, List.map_map]
  refine (List.map_congr_left fun p _ => ?_).trans (List.map_id w)
  simp [unPair, pairE, rateE]
theorem wayE_inj {a b : Way} (h : wayE a = wayE b) : a = b := by rw [← unWay_wayE a, h, unWay_wayE]
def ssW (l : List Way) : List Way := (ssD (l.map wayE)).map unWay
theorem ssW_eq (l : List Way) : ssD (l.map wayE) = (ssW l).map wayE := by
  unfold ssW
  rw [List.map_map]
  refine ((List.map_id _).symm.trans (List.map_congr_left fun d hd => ?_))
  obtain ⟨r, _, rfl⟩ := List.mem_map.mp (ssD_sub hd)
  simp only [Function.comp, unWay_wayE, id]
theorem ssW_mem {l : List Way} {x : Way} : x ∈ ssW l ↔ x ∈ l := by
  have h : wayE x ∈ ssD (l.map wayE) ↔ wayE x ∈ l.map wayE := ssD_mem (injT_ways l)
  rw [ssW_eq] at h
  simp only [List.mem_map] at h
  constructor
  · intro hx
    obtain ⟨y, hy, e⟩ := h.mp ⟨x, hx, rfl⟩
    exact wayE_inj e ▸ hy
  · intro hx
    obtain ⟨y, hy, e⟩ := h.mpr ⟨x, hx, rfl⟩
    exact wayE_inj e ▸ hy
end DL
namespace DL
open PySem PySem.Spec PyProof.Rows L2
/-! ### rates and ways, by the program -/
def withinB (a b : Way) : Bool := b.all fun p => decide (p.1 ∈ a.map (·.1)) && !decide (rBelow p.2 (wval a p.1))
def topB (ws : List Way) (w : Way) : Bool := !(ws.any fun o => !decide (w = o) && withinB w o)
def widB (ws : List Way) : List Way := (ssW ws).filter (topB (ssW ws))
end DL
namespace DL
open PySem PySem.Spec PyProof.Rows L2
/-! ### two ways together (plain) -/
def aput {α : Type} (kvs : List (Str × α)) (k : Str) (v : α) : List (Str × α) := if (kvs.any fun p => decide (p.1 = k)) = true then kvs.map (fun p => if p.1 = k then (p.1, v) else p) else kvs ++ [(k, v)]
def avE {α : Type} (enc : α → D) (kvs : List (Str × α)) : List (Str × D) := kvs.map fun p => (p.1, enc p.2)
theorem avE_keys {α : Type} (enc : α → D) (kvs : List (Str × α)) : (avE enc kvs).map (·.1) = kvs.map (·.1) := by simp [avE]
theorem aput_eq {α : Type} (enc : α → D) (kvs : List (Str × α)) (k : Str) (v : α) : tput (avE enc kvs) k (enc v) = avE enc (aput kvs k v) := by
  unfold tput aput avE
  have e : (List.any (List.map (fun p : Str × α => (p.1, enc p.2)) kvs) fun p => decide (p.1 = k)) = kvs.any fun p => decide (p.1 = k) := by rw [List.any_map]; rfl
  rw [e]
  split
  · rw [List.map_map, List.map_map]
    refine List.map_congr_left fun p _ => ?_
    simp only [Function.comp]
    split <;> rfl
  · simp
theorem aput_keys {α : Type} (kvs : List (Str × α)) (k : Str) (v : α) (x : Str) : x ∈ (aput kvs k v).map (·.1) ↔ x = k ∨ x ∈ kvs.map (·.1) := by
  have := tput_keys (avE (fun _ => D.non) kvs) k D.non x
  rw [show tput (avE (fun _ : α => D.non) kvs) k D.non = avE (fun _ => D.non) (aput kvs k v) from aput_eq (fun _ => D.non) kvs k v, avE_keys, avE_keys] at this
  exact this
theorem aput_nodup {α : Type} {kvs : List (Str × α)} (h : (kvs.map (·.1)).Nodup) (k : Str) (v : α) : ((aput kvs k v).map (·.1)).Nodup := by
  have := tput_nodup (kvs := avE (fun _ => D.non) kvs) (by rw [avE_keys]; exact h) k D.non
  rw [show tput (avE (fun _ : α => D.non) kvs) k D.non = avE (fun _ => D.non) (aput kvs k v) from aput_eq (fun _ => D.non) kvs k v, avE_keys] at this
  exact this
theorem aput_mem {α : Type} {kvs : List (Str × α)} {k : Str} {v : α} {p : Str × α} (h : p ∈ aput kvs k v) : p ∈ kvs ∨ p = (k, v) := by
  unfold aput at h
  split at h
  · obtain ⟨q, hq, e⟩ := List.mem_map.mp h
    split at e
    · rename_i hk; right; rw [← e, hk]
    · left; rw [← e]; exact hq
  · rcases List.mem_append.mp h with h | h
    · exact .inl h
    · exact .inr (List.mem_singleton.mp h)
/-- what stands at a key -/
def aget {α : Type} (kvs : List (Str × α)) (k : Str) : Option α := (kvs.find? fun p => decide (p.1 = k)).map (·.2)
theorem Rate.pos {r : Rt} (h : Rate r) : 0 < r.2 := Nat.lt_of_lt_of_le h.one h.le
/-! ### rules put together (plain) -/
def oneR (a b : List Way) : List Way := widB (a ++ b)
/-! ### the laws of sets -/
end DL
namespace DL
open PySem PySem.Spec PyProof.Rows L2
/-! ### runs: d[k] = v; loops that draw nothing -/
section
variable {G : Type} {st : Sl} {g : G} {a b c : M G S} {s t : S} {d e : D} {i : Nat}
def kDp5 (i : Nat) (dk dv : D) (kvs : List (D × D)) (st : Sl) (g : G) : Option (Fl × Sl × G) := if kvs.length < sizeLine then some (.nx, st.set i (some (.ow (.dct (dput kvs dk dv)))), g) else none
@[simp] theorem kDp5_eq {dk dv : D} {kvs : List (D × D)} (h : kvs.length < sizeLine) : kDp5 i dk dv kvs st g = some (.nx, st.set i (some (.ow (.dct (dput kvs dk dv)))), g) := nr (by unfold kDp5; rw [if_pos h])
def kDp4 (i : Nat) (dk dv : D) (st : Sl) (g : G) : Option (Option S) → Option (Fl × Sl × G)
  | some (some (.ow (.dct kvs))) => if (keyD dk).isSome = true then kDp5 i dk dv kvs st g else none
  | _ => none
@[simp] theorem kDp4_str {dv : D} {k : Str} {kvs : List (D × D)} : kDp4 i (.str k) dv st g (some (some (.ow (.dct kvs)))) = kDp5 i (.str k) dv kvs st g := nr rfl
@[simp] theorem kDp4_int {dv : D} {k : Int} {kvs : List (D × D)} : kDp4 i (.int k) dv st g (some (some (.ow (.dct kvs)))) = kDp5 i (.int k) dv kvs st g := nr rfl
def kDp3 (i : Nat) (dv : D) (st : Sl) (g : G) : Option D → Option (Fl × Sl × G)
  | some dk => kDp4 i dk dv st g st[i]?
  | none => none
@[simp] theorem kDp3_some {dv : D} : kDp3 i dv st g (some d) = kDp4 i d dv st g st[i]? := nr rfl
def kDp2 (i : Nat) (dv : D) (k : S) (st : Sl) (g : G) : Option (Fl × Sl × G) := kDp3 i dv st g (peek k st)
@[simp] theorem kDp2_eq {dv : D} : kDp2 i dv s st g = kDp3 i dv st g (peek s st) := nr rfl
def kDp1 (i : Nat) (fk : M G S) (dv : D) (_ : S) (st : Sl) (g : G) : Option (Fl × Sl × G) := thn (fk st g) (kDp2 i dv) .u
@[simp] theorem kDp1_eq {dv : D} : kDp1 i a dv s st g = thn (a st g) (kDp2 i dv) .u := nr rfl
def kDp0 (i : Nat) (fk : M G S) (dv : D) (st : Sl) (g : G) : Option (Fl × Sl × G) := thn (mAt i st g) (kDp1 i fk dv) .u
@[simp] theorem kDp0_eq {dv : D} : kDp0 i a dv st g = thn (mAt i st g) (kDp1 i a dv) .u := nr rfl
@[simp] theorem r_dput : mDPut i a b st g = thn (mTake b st g) (kDp0 i a) .u := nr (by
  unfold mDPut thn kDp0; congr 1; funext dv st g
  unfold thn kDp1; congr 1; funext x st g
  unfold thn kDp2; congr 1; funext k st g
  cases peek k st with
  | none => rfl
  | some dk =>
    show (match st[i]?, keyD dk with
      | some (some (.ow (.dct kvs))), some _ => if kvs.length < sizeLine then some (.nx, st.set i (some (.ow (.dct (dput kvs dk dv)))), g) else none
      | _, _ => none) = kDp4 i dk dv st g st[i]?
    generalize st[i]? = o
    exact match o with
      | none => rfl
      | some none => rfl
      | some (some (.sh _)) => rfl
      | some (some (.at _)) => rfl
      | some (some .any) => rfl
      | some (some (.ow (.dct kvs))) => by
        show _ = if (keyD dk).isSome = true then kDp5 i dk dv kvs st g else none
        cases keyD dk <;> rfl
      | some (some (.ow .non)) => rfl
      | some (some (.ow (.bl _))) => rfl
      | some (some (.ow (.int _))) => rfl
      | some (some (.ow (.str _))) => rfl
      | some (some (.ow (.tup _))) => rfl
      | some (some (.ow (.lst _))) => rfl
      | some (some (.ow (.obj _))) => rfl
      | some (some (.ow (.dcn _))) => rfl)
def kAt (i : Nat) (st : Sl) (g : G) : Option (Option S) → Option (S × Sl × G)
  | some (some (.ow _)) => some (.at i, st, g)
  | _ => none
@[simp] theorem kAt_ow : kAt i st g (some (some (.ow d))) = some (.at i, st, g) := nr rfl
@[simp] theorem r_at : (mAt i : M G S) st g = kAt i st g st[i]? := nr (by
  unfold mAt kAt
  generalize st[i]? = o
  exact match o with
    | none => rfl
    | some none => rfl
    | some (some s) => by cases s <;> rfl)
end
/-! ### dicts by texts -/
/-! ### pairs in order -/
/-! ### together -/
end DL
namespace DL
open PySem PySem.Spec PyProof.Rows L2
/-! ### columns of ways -/
def AllIn (cs : List Str) (ws : List Way) : Prop := ∀ w ∈ ws, ∀ c ∈ w.map (·.1), c ∈ cs
theorem AllIn.mono {cs ds : List Str} {ws : List Way} (h : AllIn cs ws) (hs : ∀ c ∈ cs, c ∈ ds) : AllIn ds ws := fun w hw c hc => hs c (h w hw c hc)
theorem widB_sub {ws : List Way} {w : Way} (h : w ∈ widB ws) : w ∈ ws := ssW_mem.mp (List.mem_filter.mp h).1
theorem AllIn.wid {cs : List Str} {a : List Way} (ha : AllIn cs a) : AllIn cs (widB a) := fun w hw => ha w (widB_sub hw)
theorem AllIn.app {cs : List Str} {a b : List Way} (ha : AllIn cs a) (hb : AllIn cs b) : AllIn cs (a ++ b) := fun w hw => (List.mem_append.mp hw).elim (ha w) (hb w)
theorem AllIn.one {cs : List Str} {a b : List Way} (ha : AllIn cs a) (hb : AllIn cs b) : AllIn cs (oneR a b) := (ha.app hb).wid
/-! ### rules put together, by the program -/
def ruleE (r : List Way) : D := .tup (r.map wayE)
/-! ### the rule of a plan -/
end DL
namespace DL
open PySem PySem.Spec PyProof.Rows L2
/-! ### ways and rules, by the law -/
/-- a way, as a dict -/
structure DWay (w : Way) : Prop where
  nd : (w.map (·.1)).Nodup
  rate : ∀ p ∈ w, Rate p.2 ∧ p.2 ≠ one
theorem WayOk.dw {w : Way} (h : WayOk w) : DWay w := ⟨h.nd, h.rate⟩
end DL
namespace DL
open PySem PySem.Spec PyProof.Rows L2
/-- a way that is being drawn -/
structure Dr (cols : List Str) (w : Way) : Prop where
  dw : DWay w
  sub : ∀ c ∈ w.map (·.1), c ∈ cols
theorem Dr.nil {cols : List Str} : Dr cols [] := ⟨⟨List.Pairwise.nil, fun _ h => nomatch h⟩, fun _ h => nomatch h⟩
theorem Dr.put {cols : List Str} {w : Way} (h : Dr cols w) {c : Str} {r : Rt} (hc : c ∈ cols) (hr : Rate r) (h1 : r ≠ one) : Dr cols (aput w c r) where
  dw := ⟨aput_nodup h.dw.nd _ _, fun p hp => by
    rcases aput_mem hp with h' | h'
    · exact h.dw.rate p h'
    · rw [h']; exact ⟨hr, h1⟩⟩
  sub x hx := by
    rcases (aput_keys w c r x).mp hx with e | h'
    · rw [e]; exact hc
    · exact h.sub x h'
end DL
namespace DL
open PySem PySem.Spec PyProof.Rows L2
section
variable {G : Type} {st : Sl} {g : G} {a : M G S} {ps : List Pt} {ds : List D}
def kUnpL (ps : List Pt) (d : D) (st : Sl) (g : G) : Option (Fl × Sl × G) := match d with
  | .lst ds => kUnp1 g (asgs ps ds st)
  | _ => none
@[simp] theorem kUnpL_eq : kUnpL ps (.lst ds) st g = kUnp1 g (asgs ps ds st) := nr rfl
@[simp] theorem r_unpL : mUnpL ps a st g = thn (mTake a st g) (kUnpL ps) .u := nr (by
  unfold mUnpL thn; congr 1; funext d st g
  cases d with
  | lst ds => show Option.map _ (asgs ps ds st) = kUnp1 g (asgs ps ds st); cases asgs ps ds st <;> rfl
  | _ => rfl)
end
/-! ### rules may be shown -/
end DL
namespace DL
open PySem PySem.Spec PyProof.Rows L2
/-! ### runs -/
@[simp] theorem opDict_dct {kvs : List (D × D)} : opDict (.dct kvs) = some (.ow (.dct kvs)) := nr rfl
theorem nodup_few {a L : List Str} (ha : a.Nodup) (h : ∀ x ∈ a, x ∈ L) : a.length ≤ L.length := by
  have h1 := asc_few (ssT_asc a) (L := L) fun x hx => h x (ssT_mem.mp hx)
  have e : (ssT a).length = a.length := by
    have := congrArg List.length (msD_tx ha)
    rw [msD_len] at this
    simpa using this.symm
  omega
/-! ### two ways met, as dicts -/
/-- ways as dicts, of few columns -/
def DWs (cs : List Str) (l : List Way) : Prop := ∀ w ∈ l, DWay w ∧ ∀ c ∈ w.map (·.1), c ∈ cs
theorem DWs.len {cs : List Str} {l : List Way} (h : DWs cs l) {w : Way} (hw : w ∈ l) : w.length ≤ cs.length := by
  have := nodup_few (h w hw).1.nd (h w hw).2
  rwa [List.length_map] at this
end DL
namespace DL
open PySem PySem.Spec PyProof.Rows L2
/-! ### the ways of a plan, by the law -/
theorem DWs.mono {cs ds : List Str} {l : List Way} (h : DWs cs l) (hs : ∀ c ∈ cs, c ∈ ds) : DWs ds l := fun w hw => ⟨(h w hw).1, fun c hc => hs c ((h w hw).2 c hc)⟩
/-! ### by the law's code -/
end DL
namespace DL
open PySem PySem.Spec PyProof.Rows L2
end DL
namespace DL
open PySem PySem.Spec PyProof.Rows L2
/-! ### a plan with a rule (plain) -/
end DL
namespace DL
open PySem PySem.Spec PyProof.Rows L2
/-! ### what is a way, of any value -/
def isOneD : D → Bool
  | .tup [.int a, .int b] => decide (a = 1) && decide (b = 1)
  | _ => false
def pairW (cs : List Str) : D → Bool
  | .tup [.str c, r] => decide (c ∈ cs) && (rateB 1 1000 r && !isOneD r)
  | _ => false
theorem rateB_of {d : D} (h : rateB 1 1000 d = true) : ∃ r, d = rateE r ∧ Rate r := by
  unfold rateB at h
  split at h
  · rename_i a b
    simp only [Bool.and_eq_true, decide_eq_true_eq] at h
    obtain ⟨⟨⟨h1, h2⟩, h3, h4⟩, h5⟩ := h
    obtain ⟨x, rfl⟩ := Int.eq_ofNat_of_zero_le (show 0 ≤ a by omega)
    obtain ⟨y, rfl⟩ := Int.eq_ofNat_of_zero_le (show 0 ≤ b by omega)
    exact ⟨(x, y), rfl, by show 1 ≤ x; omega, by show x ≤ y; omega, by show y ≤ 1000; omega, by simpa using h5⟩
  · cases h
theorem rateB_rate {r : Rt} (h : Rate r) : rateB 1 1000 (rateE r) = true := by
  have := h.one; have := h.le; have := h.most; have hl := h.low
  simp only [rateE, rateB, Bool.and_eq_true, decide_eq_true_eq]
  exact ⟨⟨⟨by omega, by omega⟩, by omega, by omega⟩, by simpa using hl⟩
theorem isOne_rate (r : Rt) : isOneD (rateE r) = decide (r = one) := by
  obtain ⟨a, b⟩ := r
  simp only [rateE, isOneD, one, Prod.mk.injEq]
  have e1 : decide ((a : Int) = 1) = decide (a = 1) := by congr 1; simp; omega
  have e2 : decide ((b : Int) = 1) = decide (b = 1) := by congr 1; simp; omega
  rw [e1, e2]
  by_cases h1 : a = 1 <;> by_cases h2 : b = 1 <;> simp [h1, h2]
theorem pairW_of {cs : List Str} {d : D} (h : pairW cs d = true) : ∃ p : Str × Rt, d = pairE p ∧ p.1 ∈ cs ∧ Rate p.2 ∧ p.2 ≠ one := by
  unfold pairW at h
  split at h
  · rename_i c r
    simp only [Bool.and_eq_true, decide_eq_true_eq] at h
    obtain ⟨h1, h2, h3⟩ := h
    obtain ⟨x, rfl, hx⟩ := rateB_of h2
    rw [isOne_rate] at h3
    exact ⟨(c, x), rfl, h1, hx, by simpa using h3⟩
  · cases h
theorem pairs_of {cs : List Str} : ∀ {l : List D}, l.all (pairW cs) = true → ∃ w : Way, l = w.map pairE ∧ ∀ p ∈ w, p.1 ∈ cs ∧ Rate p.2 ∧ p.2 ≠ one
  | [], _ => ⟨[], rfl, fun _ h => nomatch h⟩
  | d :: l, h => by
    rw [List.all_cons, Bool.and_eq_true] at h
    obtain ⟨p, rfl, hp⟩ := pairW_of h.1
    obtain ⟨w, rfl, hw⟩ := pairs_of h.2
    exact ⟨p :: w, rfl, fun q hq => (List.mem_cons.mp hq).elim (fun e => e ▸ hp) (hw q)⟩
end DL
namespace DL
open PySem PySem.Spec PyProof.Rows L2
/-! ### what is a rule, of any value -/
end DL
namespace DL
open PySem PySem.Spec PyProof.Rows L2
/-! ### runs: dict(zip(..)), x, d[k] = .. -/
section
variable {G : Type} {st : Sl} {g : G} {a b c : M G S} {u : M G (List D)} {d e : D} {i j : Nat}
def kDz (ds : List D) (st : Sl) (g : G) : Option (S × Sl × G) := match ds with
  | [.tup xs, .tup ys] => if (keyLs xs).isSome = true then some (.ow (.dct (mergeD (xs.zip ys))), st, g) else none
  | _ => none
@[simp] theorem kDz_tt {xs ys : List D} (h : (keyLs xs).isSome = true) : kDz [.tup xs, .tup ys] st g = some (.ow (.dct (mergeD (xs.zip ys))), st, g) := nr (by simp only [kDz, h, if_true])
@[simp] theorem r_dz : mDictZip u st g = thn (u st g) kDz .u := nr rfl
def kPd2 (i j : Nat) (fk : M G S) (da db : D) (st : Sl) (g : G) : Option (Fl × Sl × G) := if i < st.length then mDPut j fk (mC db) (st.set i (some (.sh da))) g else none
@[simp] theorem kPd2_eq {fk : M G S} {da db : D} : kPd2 i j fk da db st g = if i < st.length then mDPut j fk (mC db) (st.set i (some (.sh da))) g else none := nr rfl
def kPd1 (i j : Nat) (fk fb : M G S) (da : D) (st : Sl) (g : G) : Option (Fl × Sl × G) := thn (mTake fb st g) (kPd2 i j fk da) .u
@[simp] theorem kPd1_eq {fk fb : M G S} {da : D} : kPd1 i j fk fb da st g = thn (mTake fb st g) (kPd2 i j fk da) .u := nr rfl
@[simp] theorem r_parD : mParD i j a b c st g = thn (mTake a st g) (kPd1 i j c b) .u := nr rfl
end
/-! ### a row as a dict of its columns -/
/-! ### rows of a form -/
/-! ### what is counted -/
end DL
namespace DL
open PySem PySem.Spec PyProof.Rows L2
/-! ### runs: d[k] = v with tuple keys -/
section
variable {G : Type} {st : Sl} {g : G} {a b c : M G S} {s t : S} {d e : D} {i : Nat}
def kDn5 (i : Nat) (dk dv : D) (st : Sl) (g : G) : Option (List (D × D)) → Option (Fl × Sl × G)
  | some kvs => if okNK dk = true ∧ kvs.length < sizeLine then some (.nx, st.set i (some (.ow (.dcn (nput kvs dk dv)))), g) else none
  | none => none
@[simp] theorem kDn5_eq {dk dv : D} {kvs : List (D × D)} (h0 : okNK dk = true) (h : kvs.length < sizeLine) : kDn5 i dk dv st g (some kvs) = some (.nx, st.set i (some (.ow (.dcn (nput kvs dk dv)))), g) := nr (if_pos ⟨h0, h⟩)
def kDn4 (i : Nat) (dk dv : D) (st : Sl) (g : G) : Option (Option S) → Option (Fl × Sl × G)
  | some (some (.ow d)) => kDn5 i dk dv st g (nD d)
  | _ => none
@[simp] theorem kDn4_ow {dk dv : D} : kDn4 i dk dv st g (some (some (.ow d))) = kDn5 i dk dv st g (nD d) := nr rfl
def kDn3 (i : Nat) (dv : D) (st : Sl) (g : G) : Option D → Option (Fl × Sl × G)
  | some dk => kDn4 i dk dv st g st[i]?
  | none => none
@[simp] theorem kDn3_some {dv : D} : kDn3 i dv st g (some d) = kDn4 i d dv st g st[i]? := nr rfl
def kDn2 (i : Nat) (dv : D) (k : S) (st : Sl) (g : G) : Option (Fl × Sl × G) := kDn3 i dv st g (peek k st)
@[simp] theorem kDn2_eq {dv : D} : kDn2 i dv s st g = kDn3 i dv st g (peek s st) := nr rfl
def kDn1 (i : Nat) (fk : M G S) (dv : D) (_ : S) (st : Sl) (g : G) : Option (Fl × Sl × G) := thn (fk st g) (kDn2 i dv) .u
@[simp] theorem kDn1_eq {dv : D} : kDn1 i a dv s st g = thn (a st g) (kDn2 i dv) .u := nr rfl
def kDn0 (i : Nat) (fk : M G S) (dv : D) (st : Sl) (g : G) : Option (Fl × Sl × G) := thn (mAt i st g) (kDn1 i fk dv) .u
@[simp] theorem kDn0_eq {dv : D} : kDn0 i a dv st g = thn (mAt i st g) (kDn1 i a dv) .u := nr rfl
@[simp] theorem r_dputN : mDPutN i a b st g = thn (mTake b st g) (kDn0 i a) .u := nr (by
  unfold mDPutN thn kDn0; congr 1; funext dv st g
  unfold thn kDn1; congr 1; funext x st g
  unfold thn kDn2; congr 1; funext k st g
  cases peek k st with
  | none => rfl
  | some dk =>
    show (match st[i]? with
      | some (some (.ow d)) => (nD d).bind fun kvs => if okNK dk = true ∧ kvs.length < sizeLine then some (.nx, st.set i (some (.ow (.dcn (nput kvs dk dv)))), g) else none
      | _ => none) = kDn4 i dk dv st g st[i]?
    generalize st[i]? = o
    exact match o with
      | none => rfl
      | some none => rfl
      | some (some (.sh _)) => rfl
      | some (some (.at _)) => rfl
      | some (some .any) => rfl
      | some (some (.ow d)) => by
        show (nD d).bind _ = kDn5 i dk dv st g (nD d)
        cases nD d <;> rfl)
end
/-! ### spots: dials with keys -/
abbrev Spot := Str × Int
def spE (p : Spot) : D := .tup [.str p.1, .int p.2]
def spPut (L : List Spot) (p : Spot) : List Spot := if p ∈ L then L else L ++ [p]
structure SpOk (dl : List (Str × Str)) (L : List Spot) : Prop where
  nd : L.Nodup
  dial : ∀ p ∈ L, p.1 ∈ dl.map (·.2)
  key : ∀ p ∈ L, 0 ≤ p.2 ∧ p.2 ≤ 99
theorem SpOk.nil {dl : List (Str × Str)} : SpOk dl [] := ⟨List.Pairwise.nil, (fun _ h => nomatch h), fun _ h => nomatch h⟩
theorem SpOk.put {dl : List (Str × Str)} {L : List Spot} (h : SpOk dl L) {p : Spot} (h1 : p.1 ∈ dl.map (·.2)) (h2 : 0 ≤ p.2 ∧ p.2 ≤ 99) : SpOk dl (spPut L p) := by
  unfold spPut
  split
  · exact h
  · rename_i hn
    have mem : ∀ q ∈ L ++ [p], q ∈ L ∨ q = p := fun q hq => by simpa using hq
    refine ⟨?_, fun q hq => ?_, fun q hq => ?_⟩
    · rw [List.nodup_append]
      refine ⟨h.nd, by simp, fun a ha b hb e => ?_⟩
      cases List.mem_singleton.mp hb
      exact hn (e ▸ ha)
    · rcases mem q hq with hq | rfl
      · exact h.dial q hq
      · exact h1
    · rcases mem q hq with hq | rfl
      · exact h.key q hq
      · exact h2
end DL
namespace DL
open PySem PySem.Spec PyProof.Rows L2
/-! ### the spots -/
end DL
namespace DL
open PySem PySem.Spec PyProof.Rows L2
/-! ### numbers -/
/-! ### a draw -/
abbrev Trip := Spot × Rt
def trE (t : Trip) : D := .tup [.str t.1.1, .int t.1.2, rateE t.2]
end DL
namespace DL
open PySem PySem.Spec PyProof.Rows L2
end DL
namespace DL
open PySem PySem.Spec PyProof.Rows L2
/-! ### what is a draw -/
/-! ### what is hidden -/
end DL
namespace DL
open PySem PySem.Spec PyProof.Rows L2
/-! ### draws may be shown -/
end DL
namespace DL
open PySem PySem.Spec PyProof.Rows L2
/-! ### rows that fit -/
abbrev Rw := List (Str × Int)
end DL
namespace DL
open PySem PySem.Spec PyProof.Rows L2
end DL
namespace DL
open PySem
/-! ### rows that fit, plain -/
end DL
namespace DL
open PySem
/-- two rows that differ -/
def Dif (a b : Rw) : Prop := ∃ c k k', aget a c = some k ∧ aget b c = some k' ∧ k ≠ k'
theorem Dif.ext {a b a' b' : Rw} (h : Dif a b) (ha : ∀ c k, aget a c = some k → aget a' c = some k) (hb : ∀ c k, aget b c = some k → aget b' c = some k) : Dif a' b' :=
  let ⟨c, k, k', h1, h2, h3⟩ := h; ⟨c, k, k', ha _ _ h1, hb _ _ h2, h3⟩
end DL
namespace DL
open PySem PySem.Spec PyProof.Rows L2
end DL
namespace DL
open PySem PySem.Spec PyProof.Rows L2
end DL
namespace DL
open PySem PySem.Spec PyProof.Rows L2
end DL
namespace DL
open PySem PySem.Spec PyProof.Rows L2
/-! ### keys of rows, plain -/
/-! ### what a plan shows, plain: f tells the key of a column -/
end DL
namespace DL
open PySem PySem.Spec PyProof.Rows L2
section
variable {dl : List (Str × Str)} {hs : List (Str × List Str)} {g : Dk}
theorem colsOf {fr : List Str} (hh : Heads dl hs) (hf : Frame hs fr) : F_columns_of [schE dl hs, .tup (tx fr)] g = some (.tup (tx (colsL hs fr)), g) := by
  have ec := columnsOf_eq (fr := fr) (g := g) hh hf.sub hf.few
  rwa [cols_same hh hf.sub] at ec
end
end DL
namespace DL
open PySem PySem.Spec PyProof.Rows L2
section
variable {α β γ δ : Type}
variable {e : α → D} {f : β → D} {h : γ → D} {j : δ → D} {n k l m : Nat}
/-! ### data that may be looked at -/
class Dat (e : α → D) (k : outParam Nat) : Prop where
  pl : ∀ a, (e a).pl = true
  dp : ∀ a, (e a).py.depth ≤ k
  eqv : ∀ a b, PyData.eqv (e a).py (e b).py = true ↔ a = b
theorem Dat.pls [Dat e k] : ∀ l : List α, D.pls (l.map e) = true
  | [] => rfl
  | a :: l => by simp only [List.map_cons, D.pls, Dat.pl (e := e) a, Dat.pls l, Bool.and_self]
theorem Dat.dps [Dat e k] : ∀ l : List α, PyData.depthAll (D.pys (l.map e)) ≤ k
  | [] => by simp [D.pys, PyData.depthAll]
  | a :: l => by
    have h1 := Dat.dp (e := e) a
    have h2 := Dat.dps l
    simp only [List.map_cons, D.pys, PyData.depthAll]; omega
theorem Dat.eqvs [Dat e k] : ∀ a b : List α, PyData.eqvAll (D.pys (a.map e)) (D.pys (b.map e)) = true ↔ a = b
  | [], [] => by simp [D.pys, PyData.eqvAll]
  | [], b :: bs => by simp [D.pys, PyData.eqvAll]
  | a :: as, [] => by simp [D.pys, PyData.eqvAll]
  | a :: as, b :: bs => by
    have h1 := Dat.eqv (e := e) a b
    have h2 := Dat.eqvs as bs
    simp only [List.map_cons, D.pys, PyData.eqvAll, Bool.and_eq_true, h1, h2, List.cons.injEq]
instance : Dat D.int 0 := ⟨fun _ => rfl, fun _ => by simp [D.py, PyData.depth], fun a b => by rw [D.py, D.py, eqv_int]; simp⟩
instance : Dat D.str 0 := ⟨fun _ => rfl, fun _ => by simp [D.py, PyData.depth], fun a b => by rw [D.py, D.py, eqv_str]; simp⟩
instance : Dat D.bl 0 := ⟨fun _ => rfl, fun _ => by simp [D.py, PyData.depth], fun a b => by simp [D.py, PyData.eqv]⟩
instance [Dat e k] : Dat (eT e) (k + 1) := ⟨fun a => by simp only [eT, D.pl, Dat.pls (e := e)], fun a => by
    have := Dat.dps (e := e) a
    simp only [eT, D.py, PyData.depth]; omega, fun a b => by
    have := Dat.eqvs (e := e) a b
    simpa only [eT, D.py, PyData.eqv] using this⟩
instance [Dat e k] : Dat (eL e) (k + 1) := ⟨fun a => by simp only [eL, D.pl, Dat.pls (e := e)], fun a => by
    have := Dat.dps (e := e) a
    simp only [eL, D.py, PyData.depth]; omega, fun a b => by
    have := Dat.eqvs (e := e) a b
    simpa only [eL, D.py, PyData.eqv] using this⟩
instance [Dat e k] [Dat f l] : Dat (eP e f) (max k l + 1) := ⟨fun a => by simp only [eP, D.pl, D.pls, Dat.pl (e := e), Dat.pl (e := f), Bool.and_self], fun a => by
    have h1 := Dat.dp (e := e) a.1
    have h2 := Dat.dp (e := f) a.2
    simp only [eP, D.py, D.pys, PyData.depth, PyData.depthAll]; omega, fun a b => by
    have h1 := Dat.eqv (e := e) a.1 b.1
    have h2 := Dat.eqv (e := f) a.2 b.2
    simp only [eP, D.py, D.pys, PyData.eqv, PyData.eqvAll, Bool.and_eq_true, h1, h2, and_true, Prod.ext_iff]⟩
instance [Dat e k] [Dat f l] [Dat h m] : Dat (eP3 e f h) (max k (max l m) + 1) := ⟨fun a => by simp only [eP3, D.pl, D.pls, Dat.pl (e := e), Dat.pl (e := f), Dat.pl (e := h), Bool.and_self], fun a => by
    have h1 := Dat.dp (e := e) a.1
    have h2 := Dat.dp (e := f) a.2.1
    have h3 := Dat.dp (e := h) a.2.2
    simp only [eP3, D.py, D.pys, PyData.depth, PyData.depthAll]; omega, fun a b => by
    have h1 := Dat.eqv (e := e) a.1 b.1
    have h2 := Dat.eqv (e := f) a.2.1 b.2.1
    have h3 := Dat.eqv (e := h) a.2.2 b.2.2
    simp only [eP3, D.py, D.pys, PyData.eqv, PyData.eqvAll, Bool.and_eq_true, h1, h2, h3, and_true, Prod.ext_iff]⟩
instance [Dat e k] [Dat f l] [Dat h m] [Dat j n] : Dat (eP4 e f h j) (max (max k l) (max m n) + 1) := ⟨fun a => by simp only [eP4, D.pl, D.pls, Dat.pl (e := e), Dat.pl (e := f), Dat.pl (e := h), Dat.pl (e := j), Bool.and_self], fun a => by
    have h1 := Dat.dp (e := e) a.1
    have h2 := Dat.dp (e := f) a.2.1
    have h3 := Dat.dp (e := h) a.2.2.1
    have h4 := Dat.dp (e := j) a.2.2.2
    simp only [eP4, D.py, D.pys, PyData.depth, PyData.depthAll]; omega, fun a b => by
    have h1 := Dat.eqv (e := e) a.1 b.1
    have h2 := Dat.eqv (e := f) a.2.1 b.2.1
    have h3 := Dat.eqv (e := h) a.2.2.1 b.2.2.1
    have h4 := Dat.eqv (e := j) a.2.2.2 b.2.2.2
    simp only [eP4, D.py, D.pys, PyData.eqv, PyData.eqvAll, Bool.and_eq_true, h1, h2, h3, h4, and_true, Prod.ext_iff]⟩
theorem Dat.comap [Dat e k] (t : β → α) (ht : ∀ a b, t a = t b → a = b) : Dat (fun b => e (t b)) k := ⟨fun a => Dat.pl (t a), fun a => Dat.dp (t a), fun a b => by rw [Dat.eqv (e := e)]; exact ⟨ht a b, fun h => by rw [h]⟩⟩
theorem Inj.comap [Inj e] (t : β → α) (ht : ∀ a b, t a = t b → a = b) : Inj (fun b => e (t b)) := ⟨fun a b h => ht _ _ (Inj.inj _ _ h)⟩
/-! ### data that may be sorted -/
class Ky (e : α → D) (k : outParam Nat) : Prop where
  nk : ∀ a, ∃ n, nkD (e a) = some n ∧ n.depth ≤ k
  al : ∀ a b, PySem.W.alike (e a).py (e b).py = true
theorem Ky.nks [Ky e k] : ∀ l : List α, ∃ ns, nksD (l.map e) = some ns ∧ NestedKey.depthAll ns ≤ k
  | [] => ⟨[], rfl, by simp [NestedKey.depthAll]⟩
  | a :: l => by
    obtain ⟨n, h1, h2⟩ := Ky.nk (e := e) a
    obtain ⟨ns, h3, h4⟩ := Ky.nks l
    exact ⟨n :: ns, by simp only [List.map_cons, nksD, h1, h3], by simp only [NestedKey.depthAll]; omega⟩
theorem Ky.als [Ky e k] : ∀ a b : List α, PySem.W.alikeAll (D.pys (a.map e)) (D.pys (b.map e)) = true
  | [], _ => by simp [D.pys, PySem.W.alikeAll]
  | _ :: _, [] => by simp [D.pys, PySem.W.alikeAll]
  | a :: as, b :: bs => by
    simp only [List.map_cons, D.pys, PySem.W.alikeAll, Ky.al (e := e) a b, Ky.als as bs, Bool.and_self]
instance : Ky D.int 0 := ⟨fun a => ⟨.num a, rfl, by simp [NestedKey.depth]⟩, fun a b => by simp [D.py, PySem.W.alike]⟩
instance : Ky D.str 0 := ⟨fun a => ⟨.text a, rfl, by simp [NestedKey.depth]⟩, fun a b => by simp [D.py, PySem.W.alike]⟩
instance [Ky e k] : Ky (eT e) (k + 1) := ⟨fun a => by
    obtain ⟨ns, h1, h2⟩ := Ky.nks (e := e) a
    exact ⟨.tup ns, by simp only [eT, nkD, h1, Option.map_some], by simp only [NestedKey.depth]; omega⟩, fun a b => by
    have := Ky.als (e := e) a b
    simpa only [eT, D.py, PySem.W.alike] using this⟩
instance [Ky e k] [Ky f l] : Ky (eP e f) (max k l + 1) := ⟨fun a => by
    obtain ⟨n1, h1, h2⟩ := Ky.nk (e := e) a.1
    obtain ⟨n2, h3, h4⟩ := Ky.nk (e := f) a.2
    exact ⟨.tup [n1, n2], by simp only [eP, nkD, nksD, h1, h3, Option.map_some], by simp only [NestedKey.depth, NestedKey.depthAll]; omega⟩, fun a b => by
    simp only [eP, D.py, D.pys, PySem.W.alike, PySem.W.alikeAll, Ky.al (e := e), Ky.al (e := f), Bool.and_self]⟩
instance [Ky e k] [Ky f l] [Ky h m] : Ky (eP3 e f h) (max k (max l m) + 1) := ⟨fun a => by
    obtain ⟨n1, h1, h2⟩ := Ky.nk (e := e) a.1
    obtain ⟨n2, h3, h4⟩ := Ky.nk (e := f) a.2.1
    obtain ⟨n3, h5, h6⟩ := Ky.nk (e := h) a.2.2
    exact ⟨.tup [n1, n2, n3], by simp only [eP3, nkD, nksD, h1, h3, h5, Option.map_some], by simp only [NestedKey.depth, NestedKey.depthAll]; omega⟩, fun a b => by
    simp only [eP3, D.py, D.pys, PySem.W.alike, PySem.W.alikeAll, Ky.al (e := e), Ky.al (e := f), Ky.al (e := h), Bool.and_self]⟩
theorem Ky.comap [Ky e k] (t : β → α) : Ky (fun b => e (t b)) k := ⟨fun a => Ky.nk (t a), fun a b => Ky.al (t a) (t b)⟩
/-- tuples, or numbers or texts -/
class Shp (e : α → D) : Prop where
  sh : (∀ a, isTp (e a) = true) ∨ (∀ a, isAt (e a) = true)
instance : Shp D.int := ⟨.inr fun _ => rfl⟩
instance : Shp D.str := ⟨.inr fun _ => rfl⟩
instance : Shp (eT e) := ⟨.inl fun _ => rfl⟩
instance : Shp (eP e f) := ⟨.inl fun _ => rfl⟩
instance : Shp (eP3 e f h) := ⟨.inl fun _ => rfl⟩
instance : Shp (eP4 e f h j) := ⟨.inl fun _ => rfl⟩
end
end DL
namespace DL
open PySem PySem.Spec PyProof.Rows L2
section
variable {α β γ δ : Type}
variable {e : α → D} {f : β → D} {k l m : Nat}
/-! ### operators -/
theorem o_add (a b : Int) : opAdd (.int a) (.int b) = some (sOf false (.int (a + b))) := rfl
theorem o_sub (a b : Int) : opSub (.int a) (.int b) = some (sOf false (.int (a - b))) := rfl
theorem o_neg (a : Int) : opNeg (.int a) = some (sOf false (.int (-a))) := rfl
theorem o_lt (a b : Int) : opCmp .Lt (.int a) (.int b) = some (sOf false (.bl (decide (a < b)))) := cmp_lt a b
theorem o_gt (a b : Int) : opCmp .Gt (.int a) (.int b) = some (sOf false (.bl (decide (b < a)))) := cmp_gt a b
theorem okEq_dat [Dat e k] (a b : α) (hk : k ≤ 100) : okEq (e a) (e b) = true := by
  have h := Dat.dp (e := e) a
  simp only [okEq, Dat.pl (e := e), Bool.and_true, Bool.true_and, decide_eq_true_eq]
  omega
open Classical in
@[irreducible] noncomputable def eqB (a b : α) : Bool := decide (a = b)
open Classical in
@[irreducible] noncomputable def inB (a : α) (l : List α) : Bool := decide (a ∈ l)
@[simp] theorem eqB_iff {a b : α} : eqB a b = true ↔ a = b := by unfold eqB; simp
@[simp] theorem inB_iff {a : α} {l : List α} : inB a l = true ↔ a ∈ l := by unfold inB; simp
@[simp] theorem eqB_self {a : α} : eqB a a = true := by simp
theorem eqD_dat [Dat e k] (a b : α) : eqD (e a) (e b) = eqB a b := by
  have h := Dat.eqv (e := e) a b
  unfold eqD
  rw [Bool.eq_iff_iff, h]; simp
theorem o_eq [Dat e k] (a b : α) (hk : k ≤ 100 := by decide) : opEq (e a) (e b) = some (sOf false (.bl (eqB a b))) := by
  unfold opEq
  rw [if_pos (okEq_dat a b hk), eqD_dat]; rfl
theorem o_ne [Dat e k] (a b : α) (hk : k ≤ 100 := by decide) : opNe (e a) (e b) = some (sOf false (.bl (!eqB a b))) := by
  unfold opNe
  rw [if_pos (okEq_dat a b hk), eqD_dat]; rfl
theorem inD_dat [Dat e k] (a : α) : ∀ l : List α, inD (e a) (l.map e) = inB a l
  | [] => by simp [inD, inB]
  | b :: l => by
    have ih := inD_dat a l
    unfold inD at ih ⊢
    rw [List.map_cons, List.any_cons, ih, eqD_dat, Bool.eq_iff_iff]
    simp only [Bool.or_eq_true, eqB_iff, inB_iff, List.mem_cons]
    exact ⟨fun h => h.imp Eq.symm id, fun h => h.imp Eq.symm id⟩
theorem okIn_dat [Dat e k] (a : α) (l : List α) (hk : k ≤ 100) : okIn (e a) (l.map e) = true := by
  have h := Dat.dp (e := e) a
  simp only [okIn, Dat.pl (e := e), Dat.pls (e := e), Bool.and_true, Bool.true_and, decide_eq_true_eq]
  omega
theorem opIn_t {neg : Bool} {x : D} {ds : List D} (h : okIn x ds = true) : opIn neg x (.tup ds) = some (.sh (.bl (neg ^^ inD x ds))) := by cases x <;> simp only [opIn, h, if_true]
theorem o_ninT [Dat e k] (a : α) (l : List α) (hk : k ≤ 100 := by decide) : opIn true (e a) (eT e l) = some (sOf false (.bl (!inB a l))) := by
  unfold eT; rw [opIn_t (okIn_dat a l hk), inD_dat]; simp [sOf]
theorem lt_b {i n : Nat} (h : Nat.ble (i + 1) n = true) : i < n := Nat.le_of_ble_eq_true h
theorem le_b {i n : Nat} (h : Nat.ble i n = true) : i ≤ n := Nat.le_of_ble_eq_true h
/-! dicts with texts as keys -/
/-! None -/
/-! by place -/
theorem ix20 (a b : D) : opIx (.tup [a, b]) (.int 0) = some (sOf false a) := rfl
theorem ix21 (a b : D) : opIx (.tup [a, b]) (.int 1) = some (sOf false b) := rfl
/-! lengths, copies -/
theorem o_lenS : ∀ (x : Str) z, (if x.length ≤ sizeLine then some (x.length : Int) else none) = some z → opLen (.str x) = some (sOf false (.int z)) := fun x z h => by
  split at h
  · rename_i hc; cases h; simp only [opLen, hc, if_true]; rfl
  · cases h
/-! put together -/
@[irreducible] def catS (a b : Str) : Option Str := if a.length + b.length ≤ sizeLine then some (a ++ b) else none
theorem o_catS : ∀ (x y : Str) z, catS x y = some z → opAdd (.str x) (.str y) = some (sOf false (.str z)) := fun x y z h => by
  unfold catS at h
  split at h
  · rename_i hc; cases h; simp only [opAdd, hc, if_true]; rfl
  · cases h
/-! in order -/
/-- ascending, each once -/
@[irreducible] noncomputable def ssE (e : α → D) (l : List α) : List α := (ssD (l.map e)).filterMap (unE e)
theorem ssE_map [Inj e] (l : List α) : ssD (l.map e) = (ssE e l).map e := by
  have : ∀ m : List D, (∀ d ∈ m, ∃ a, e a = d) → m = (m.filterMap (unE e)).map e := fun m => by
    induction m with
    | nil => intro _; rfl
    | cons d m ih =>
      intro h
      obtain ⟨a, rfl⟩ := h d List.mem_cons_self
      rw [List.filterMap_cons, unE_eq, List.map_cons]
      exact congrArg _ (ih fun d hd => h d (List.mem_cons_of_mem _ hd))
  unfold ssE
  exact this _ fun d hd => by
    obtain ⟨a, _, rfl⟩ := List.mem_map.mp (ssD_sub hd)
    exact ⟨a, rfl⟩
class SetOk (e : α → D) : Prop where
  ok : ∀ l : List α, l.length < 64 → okSS (l.map e) = true ∨ okSN (l.map e) = true
instance : SetOk D.str := ⟨fun l h => .inl (okSS_strs h)⟩
instance : SetOk D.int := ⟨fun l h => .inl (by
  simp only [okSS, List.length_map, h, decide_true, Bool.and_true, Bool.or_eq_true, List.all_eq_true]
  exact .inl fun d hd => by obtain ⟨a, _, rfl⟩ := List.mem_map.mp hd; rfl)⟩
theorem setOk_tp [Ky e k] (h : ∀ a, isTp (e a) = true) (hk : k ≤ 8) : SetOk e := ⟨fun l hl => .inr (by
  simp only [okSN, Bool.and_eq_true, List.all_eq_true, decide_eq_true_eq, List.length_map]
  refine ⟨⟨fun d hd => ?_, fun a ha b hb => ?_⟩, hl⟩
  · obtain ⟨a, _, rfl⟩ := List.mem_map.mp hd
    obtain ⟨n1, e1, h1⟩ := Ky.nk (e := e) a
    have ht := h a
    cases he : e a with
    | tup ds =>
      rw [he] at e1
      simp only [nkD] at e1 ⊢
      obtain ⟨ks, e2, rfl⟩ := Option.map_eq_some_iff.mp e1
      rw [e2]
      exact decide_eq_true (p := NestedKey.depth (.tup ks) ≤ 8) (by omega)
    | _ => rw [he] at ht; cases ht
  · obtain ⟨a, _, rfl⟩ := List.mem_map.mp ha
    obtain ⟨b, _, rfl⟩ := List.mem_map.mp hb
    exact Ky.al a b)⟩
@[irreducible] noncomputable def lset (e : α → D) (l : List α) : Option Int := if l.length < 64 then some (ssE e l).length else none
/-! whatever it is -/
@[irreducible] def l1 (op : D → Option S) (x : D) : Option D := match op x with
  | some (.sh z) => some z
  | _ => none
@[irreducible] def l2 (op : D → D → Option S) (x y : D) : Option D := match op x y with
  | some (.sh z) => some z
  | _ => none
theorem o_l1 {op : D → Option S} : ∀ (x : α) z, l1 op (e x) = some z → op (e x) = some (sOf false (eA z)) := fun x z h => by
  unfold l1 at h; split at h
  · rename_i hc; cases h; exact hc
  · cases h
end
end DL
namespace DL
open PySem PySem.Spec PyProof.Rows L2
section
variable {α β γ δ ρ : Type}
variable {Γ Γ1 Γ2 Γ3 : Sl} {i j k : Nat} {d : D} {ow : Bool} {e e1 e2 e3 : M Dk S} {ma : TM α} {mb : TM β} {mc : TM γ} {ea : α → D} {eb : β → D} {ec : γ → D} {x : α} {y : β} {z : γ}
/-! ### dicts: new, zipped, looked at -/
/-! ### slices, chains -/
theorem sIx_nat (m d n : Nat) : HT.sIx m d (some (n : Int)) = min n m := by
  simp only [HT.sIx]
  rw [if_neg (by omega)]; simp
def EO (Γ : Sl) (f : M Dk (Option Int)) (m : TM (Option Int)) : Prop := ∀ st g a g', Sat Γ st → m g = some (a, g') → ∃ st', f st g = some (a, st', g') ∧ Sat Γ st'
theorem po_noneT : EO Γ mNoP (pureT none) := fun st g a g' hs hm => by
  obtain ⟨rfl, rfl⟩ := pure_eq hm
  exact ⟨st, rfl, hs⟩
theorem po_someT {mi : TM Int} (h : EN Γ e mi false D.int Γ) : EO Γ (mPart e) (bindT mi fun a => pureT (some a)) := fun st g a g' hs hm => by
  obtain ⟨i, g1, m1, hm⟩ := bind_eq hm
  obtain ⟨rfl, rfl⟩ := pure_eq hm
  obtain ⟨st1, h1, hs1⟩ := h st g i g1 hs m1
  exact ⟨st1, by unfold mPart; rw [h1]; rfl, hs1⟩
theorem po_someV {i : Int} (h : EN Γ e (pureT i) false D.int Γ) : EO Γ (mPart e) (pureT (some i)) := po_someT h
variable {fl fh : M Dk (Option Int)} {ml mh : TM (Option Int)}
/-! ### own things changed, names given -/
theorem EN.hold (h : EN Γ e ma ow ea Γ1) : ∀ st g a g', Sat Γ st → ma g = some (a, g') → ∃ st', mHold e st g = some (sOf ow (ea a), st', g') ∧ Sat Γ1 st' := fun st g a g' hs hm => by
  obtain ⟨st', h1, h2⟩ := h st g a g' hs hm
  refine ⟨st', ?_, h2⟩
  unfold mHold
  rw [h1, bnd_some]
  cases ow <;> rfl
theorem jn_par {ow2 : Bool} {Γ' : α × β → Sl} (ha : EN Γ e1 ma ow ea Γ1) (hb : EN Γ1 e2 mb ow2 eb Γ2) (hi : i < Γ2.length) (hj : j < Γ2.length) (hΓ : ∀ a : α × β, (Γ2.set j (some (sOf ow2 (eb a.2)))).set i (some (sOf ow (ea a.1))) = Γ' a) :
    JN Γ (mPar i j e1 e2) (bindT ma fun x => bindT mb fun y => pureT (x, y)) Γ' := fun st g a g' hs hm => by
  obtain ⟨x, g1, m1, hm⟩ := bind_eq hm
  obtain ⟨y, g2, m2, hm⟩ := bind_eq hm
  obtain ⟨rfl, rfl⟩ := pure_eq hm
  obtain ⟨st1, h1, hs1⟩ := ha.hold st g x g1 hs m1
  obtain ⟨st2, h2, hs2⟩ := hb.hold st1 g1 y g2 hs1 m2
  refine ⟨_, ?_, by rw [← hΓ]; exact (hs2.set _).set _⟩
  unfold mPar
  rw [h1, bnd_some, h2, bnd_some, if_pos ⟨by rw [hs2.1]; exact hi, by rw [hs2.1]; exact hj⟩]
theorem jn_unp {p : Pt} {Γ' : α → Sl} (h : ET Γ e ma ea Γ1) (ha : ∀ a, asg p (ea a) Γ1 = some (Γ' a)) : JN Γ (mUnp p e) ma Γ' := fun st g a g' hs hm => by
  obtain ⟨st1, h1, hs1⟩ := h st g a g' hs hm
  obtain ⟨st2, h2, hs2⟩ := Sat.asg p (ea a) hs1 (ha a)
  exact ⟨st2, by unfold mUnp; rw [h1, bnd_some, h2]; rfl, hs2⟩
theorem sf_sn0 {s1 : M Dk Fl} {b : β} {Γb : β → Sl} {er : ρ → D} (h : JN Γ s1 (pureT b) Γb) : JF Γ s1 (pureT (.nx b)) Γb er := sf_sn h
theorem en_callKV {u : M Dk (List D)} {F : Fn Dk} {pm : List Nat} {fa : α → List D} {ds : List D} (h : EA Γ u (pureT x) fa Γ1) (hd : permD pm (fa x) = ds) : EN Γ (mCallK pm F u) (callT F ec ds) false ec Γ1 := by
  subst hd
  exact en_callK h
/-! ### two generators, dicts made -/
end
end DL
namespace DL
open PySem PySem.Spec PyProof.Rows L2
/-! ### named encodings -/
def eDk (_ : Unit) : D := .obj 0
def schP (s : List (Str × Str) × List (Str × List Str)) : D := schE s.1 s.2
def tabsE (t : List (List (List Int))) : D := .tup (t.map tabE)
def rowsE (t : List (List Int)) : D := .tup (t.map rowE)
def drwE (t : List Trip) : D := .tup (t.map trE)
instance : Inj eDk := ⟨fun _ _ _ => rfl⟩
instance : Inj rowE := inferInstanceAs (Inj (eT D.int))
instance : Inj tabE := inferInstanceAs (Inj (eT (eT D.int)))
instance : Inj tabsE := inferInstanceAs (Inj (eT (eT (eT D.int))))
instance : Inj rowsE := inferInstanceAs (Inj (eT (eT D.int)))
instance : Inj dialE := inferInstanceAs (Inj (eP D.str D.str))
instance : Inj headE := inferInstanceAs (Inj (eP D.str (eT D.str)))
instance : Inj schP := inferInstanceAs (Inj (eP (eT (eP D.str D.str)) (eT (eP D.str (eT D.str)))))
def rtI (r : Rt) : Int × Int := (r.1, r.2)
theorem rtI_inj (a b : Rt) (h : rtI a = rtI b) : a = b := by
  unfold rtI at h
  simp only [Prod.mk.injEq] at h
  exact Prod.ext (by omega) (by omega)
instance : Inj rateE := Inj.comap (e := eP D.int D.int) rtI rtI_inj
instance : Dat rateE 1 := Dat.comap (e := eP D.int D.int) rtI rtI_inj
instance : Ky rateE 1 := Ky.comap (e := eP D.int D.int) rtI
instance : Shp rateE := ⟨.inl fun _ => rfl⟩
instance : NotN rateE := ⟨fun _ => rfl⟩
instance : Dat rowE 1 := inferInstanceAs (Dat (eT D.int) 1)
instance : Ky rowE 1 := inferInstanceAs (Ky (eT D.int) 1)
instance : Shp rowE := ⟨.inl fun _ => rfl⟩
instance : NotN rowE := ⟨fun _ => rfl⟩
instance : SetOk rowE := setOk_tp (k := 1) (fun _ => rfl) (by decide)
instance : SetOk rateE := setOk_tp (k := 1) (fun _ => rfl) (by decide)
instance : Dat rowsE 2 := inferInstanceAs (Dat (eT (eT D.int)) 2)
instance : Dat tabE 2 := inferInstanceAs (Dat (eT (eT D.int)) 2)
instance : Dat tabsE 3 := inferInstanceAs (Dat (eT (eT (eT D.int))) 3)
instance : Dat schP 4 := inferInstanceAs (Dat (eP (eT (eP D.str D.str)) (eT (eP D.str (eT D.str)))) _)
instance : Inj pairE := inferInstanceAs (Inj (eP D.str rateE))
instance : Dat pairE 2 := inferInstanceAs (Dat (eP D.str rateE) _)
instance : Ky pairE 2 := inferInstanceAs (Ky (eP D.str rateE) _)
instance : Shp pairE := ⟨.inl fun _ => rfl⟩
instance : Inj wayE := inferInstanceAs (Inj (eT pairE))
instance : Dat wayE 3 := inferInstanceAs (Dat (eT pairE) _)
instance : Ky wayE 3 := inferInstanceAs (Ky (eT pairE) _)
instance : Shp wayE := ⟨.inl fun _ => rfl⟩
instance : SetOk wayE := setOk_tp (k := 3) (fun _ => rfl) (by decide)
instance : Inj ruleE := inferInstanceAs (Inj (eT wayE))
instance : Dat ruleE 4 := inferInstanceAs (Dat (eT wayE) _)
instance : NotN ruleE := ⟨fun _ => rfl⟩
instance : Inj spE := inferInstanceAs (Inj (eP D.str D.int))
instance : Dat spE 1 := inferInstanceAs (Dat (eP D.str D.int) _)
instance : Ky spE 1 := inferInstanceAs (Ky (eP D.str D.int) _)
instance : Shp spE := ⟨.inl fun _ => rfl⟩
def trI (t : Trip) : Str × Int × Rt := (t.1.1, t.1.2, t.2)
theorem trI_inj (a b : Trip) (h : trI a = trI b) : a = b := by
  unfold trI at h
  simp only [Prod.mk.injEq] at h
  exact Prod.ext (Prod.ext h.1 h.2.1) h.2.2
instance : Inj trE := Inj.comap (e := eP3 D.str D.int rateE) trI trI_inj
instance : Dat trE 2 := Dat.comap (e := eP3 D.str D.int rateE) trI trI_inj
instance : Ky trE 2 := Ky.comap (e := eP3 D.str D.int rateE) trI
instance : Inj drwE := inferInstanceAs (Inj (eT trE))
instance : Dat drwE 3 := inferInstanceAs (Dat (eT trE) _)
theorem planE_inj : ∀ p q : Plan, planE p = planE q → p = q
  | .all t, q, h => by
    cases q with
    | all u => simp only [planE, D.tup.injEq, List.cons.injEq, D.str.injEq, and_true, true_and] at h; rw [h]
    | thin p c r => simp [planE] at h
    | two w p q => simp [planE] at h
  | .thin p c r, q, h => by
    cases q with
    | all u => simp [planE] at h
    | thin p' c' r' =>
      simp only [planE, D.tup.injEq, List.cons.injEq, D.str.injEq, and_true, true_and] at h
      rw [planE_inj p p' h.1, h.2.1, Inj.inj (e := rateE) _ _ h.2.2]
    | two w p q => simp [planE] at h
  | .two w p q, q', h => by
    cases q' with
    | all u => simp [planE] at h
    | thin p' c' r' => simp [planE] at h
    | two w' p' q' =>
      simp only [planE, D.tup.injEq, List.cons.injEq, D.str.injEq, and_true] at h
      have hw : w = w' := by cases w <;> cases w' <;> first | rfl | exact absurd h.1 (by decide)
      rw [hw, planE_inj p p' h.2.1, planE_inj q q' h.2.2]
instance : Inj planE := ⟨planE_inj⟩
def pw (w x : Str) (p : Plan) : Option Plan := if x = w then some p else none
@[simp] theorem pw_self (w : Str) (p : Plan) : pw w w p = some p := by unfold pw; rw [if_pos rfl]
theorem pw_some {w x : Str} {p q : Plan} (h : pw w x p = some q) : x = w ∧ p = q := by
  unfold pw at h
  split at h
  · rename_i hx; cases h; exact ⟨hx, rfl⟩
  · cases h
theorem en_tupO {α γ : Type} {Γ Γ1 : Sl} {u : M Dk (List D)} {ma : TM α} {ec : γ → D} {fa : α → List D} {f : α → Option γ} (h : EA Γ u ma fa Γ1) (hd : ∀ x c, f x = some c → D.tup (fa x) = ec c) (hl : ∀ x, (fa x).length ≤ 1000) : EN Γ (mTup u) (bindT ma fun x => optT (f x)) false ec Γ1 := fun st g a g' hs hm => by
  obtain ⟨x, g1, m1, hm⟩ := bind_eq hm
  obtain ⟨ho, rfl⟩ := opt_eq hm
  obtain ⟨st1, h1, hs1⟩ := h st g x g1 hs m1
  refine ⟨st1, ?_, hs1⟩
  unfold mTup
  rw [h1, bnd_some, if_pos (le_sz (Nat.le_trans (hl x) (by decide))), hd x a ho]
  rfl
end DL
namespace DL
open PySem PySem.Spec PyProof.Rows L2
end DL
namespace DL
open PySem PySem.Spec PyProof.Rows L2
section
variable {α β γ δ ρ κ : Type}
variable {Γ Γ1 Γ2 Γ3 : Sl} {i j k m : Nat} {d : D} {ow : Bool} {e e1 e2 e3 : M Dk S} {ma : TM α} {mb : TM β} {ea : α → D} {eb : β → D} {ek : κ → D} {ev : β → D}
/-! ### dicts with tuples as keys -/
noncomputable def gput (l : List (κ × β)) (k : κ) (v : β) : List (κ × β) := if (l.any fun p => eqB p.1 k) = true then l.map (fun p => if eqB p.1 k = true then (p.1, v) else p) else l ++ [(k, v)]
theorem gput_keys {l : List (κ × β)} {k : κ} {v : β} {x : κ} : x ∈ (gput l k v).map (·.1) ↔ x = k ∨ x ∈ l.map (·.1) := by
  unfold gput
  split
  · rename_i h
    rw [List.any_eq_true] at h
    obtain ⟨p, hp, hk⟩ := h
    rw [eqB_iff] at hk
    rw [List.map_map]
    have : l.map ((fun p : κ × β => p.1) ∘ fun p => if eqB p.1 k = true then (p.1, v) else p) = l.map (·.1) := List.map_congr_left fun q _ => by
      simp only [Function.comp]; split <;> rfl
    rw [this]
    exact ⟨.inr, fun h => h.elim (fun e => e ▸ hk ▸ List.mem_map_of_mem hp) id⟩
  · rw [List.map_append, List.mem_append]
    simp [or_comm]
theorem gput_len (l : List (κ × β)) (k : κ) (v : β) : (gput l k v).length ≤ l.length + 1 := by
  unfold gput; split <;> simp
theorem gput_nodup {l : List (κ × β)} {k : κ} {v : β} (h : (l.map (·.1)).Nodup) : ((gput l k v).map (·.1)).Nodup := by
  unfold gput
  split
  · rw [List.map_map]
    have : l.map ((fun p : κ × β => p.1) ∘ fun p => if eqB p.1 k = true then (p.1, v) else p) = l.map (·.1) := List.map_congr_left fun q _ => by
      simp only [Function.comp]; split <;> rfl
    rw [this]; exact h
  · rename_i hn
    rw [List.map_append, List.nodup_append]
    refine ⟨h, by simp, fun a ha b hb e => hn ?_⟩
    simp only [List.map_cons, List.map_nil, List.mem_singleton] at hb
    rw [hb] at e
    obtain ⟨p, hp, hpk⟩ := List.mem_map.mp ha
    exact List.any_eq_true.mpr ⟨p, hp, by rw [eqB_iff, hpk, e]⟩
class Tpk (e : κ → D) : Prop where
  tp : ∀ a, ∃ ds, e a = .tup ds
instance {e : α → D} : Tpk (eT e) := ⟨fun _ => ⟨_, rfl⟩⟩
instance {e : α → D} {f : β → D} : Tpk (eP e f) := ⟨fun _ => ⟨_, rfl⟩⟩
instance : Tpk spE := ⟨fun _ => ⟨_, rfl⟩⟩
instance : Tpk rowE := ⟨fun _ => ⟨_, rfl⟩⟩
end
end DL
namespace DL
open PySem PySem.Spec PyProof.Rows L2
section
variable {α β γ δ ρ κ : Type}
variable {Γ Γ1 Γ2 Γ3 : Sl} {i j k m : Nat} {d : D} {ow : Bool} {e e1 e2 e3 : M Dk S} {ma : TM α} {mb : TM β} {mc : TM γ} {ea : α → D} {eb : β → D} {ec : γ → D} {x : α} {y : β} {z : γ}
theorem en_opP {op : D → D → Option S} {f : α → β → Option γ} (ha : EP Γ e1 (pureT x) ea Γ1) (hb : EP Γ1 e2 (pureT y) eb Γ1) (ho : ∀ x y z, f x y = some z → op (ea x) (eb y) = some (sOf ow (ec z))) : EN Γ (mOp op e1 e2) (optT (f x y)) ow ec Γ1 := en_op ha hb ho
theorem en_unP {un : D → Option S} {f : α → Option γ} (ha : EP Γ e1 (pureT x) ea Γ1) (ho : ∀ x z, f x = some z → un (ea x) = some (sOf ow (ec z))) : EN Γ (mUn un e1) (optT (f x)) ow ec Γ1 := en_un ha ho
theorem en_convV (ha : EN Γ e (pureT x) ow ea Γ1) (hc : ec z = ea x) : EN Γ e (pureT z) ow ec Γ1 := fun st g a g' hs hm => by
  obtain ⟨rfl, rfl⟩ := pure_eq hm
  obtain ⟨st', h1, h2⟩ := ha st g x g hs rfl
  exact ⟨st', by rw [h1, hc], h2⟩
theorem en_castV (ha : EN Γ e (pureT x) ow ea Γ1) : EN Γ e (optT (unE ec (ea x))) ow ec Γ1 := ha.cast
theorem ei_range1V {n : Int} (h : ET Γ e (pureT n) D.int Γ1) : EI Γ (srcRange1 e) (optT (rngT n)) D.int Γ1 := ei_range1 h
variable {src : M Dk (List D × List S)} {p : Pt} {vs : List Nat} {test : M Dk Bool} {elt : M Dk S} {Γa : α → Sl} {mt : α → TM Bool} {me : α → TM β} {l : List α}
variable {body : M Dk Fl} {Γb : β → Sl} {Γab : α → β → Sl} {er : ρ → D}
theorem sf_forV {mb : α → β → TM (Flo β ρ)} {b0 : β} (hi : EI Γ src (pureT l) ea Γ1) (h0 : Wk (Γb b0) Γ1) (ha : ∀ a b, asg p (ea a) (Γb b) = some (Γab a b)) (hb : ∀ a b, JF (Γab a b) body (mb a b) Γb er) : JF Γ (mFor src p body) (forF mb l b0) Γb er := sf_for hi h0 ha hb
end
end DL
namespace DL
open PySem PySem.Spec PyProof.Rows L2
/-! ### what the shared functions tell, typed -/
section
variable {dl : List (Str × Str)} {hs : List (Str × List Str)} {fr : List Str} {g : Dk} {n : Nat}
theorem c_cols (hh : Heads dl hs) (hf : Frame hs fr) : callT F_columns_of (eT D.str) [schP (dl, hs), eT D.str fr] = pureT (colsL hs fr) := callT_pure fun g => colsOf hh hf
/-! drawn -/
theorem w_scheme {u : Unit} {Q : List (Str × Str) × List (Str × List Str) → Dk → Prop} (ok : Ok (n + 60) g) (h : ∀ dl hs g', Dials dl → Heads dl hs → Ok n g' → Q (dl, hs) g') : wpT (callT F__law_scheme schP [eDk u]) g Q := by
  obtain ⟨dl, hs, g', e, h1, h2, ok'⟩ := scheme_ok ok
  exact callT_wp ⟨(dl, hs), g', e, h dl hs g' h1 h2 ok'⟩
theorem w_plan {u : Unit} {Q : Plan → Dk → Prop} (hd : Dials dl) (hh : Heads dl hs) (ok : Ok (n + 80) g) (h : ∀ p g', PlanOk hs p → p.size ≤ 12 → Ok n g' → Q p g') : wpT (callT F__law_plan planE [eDk u, schP (dl, hs)]) g Q := by
  obtain ⟨p, g', e, h1, h2, ok'⟩ := plan_ok hd hh ok
  exact callT_wp ⟨p, g', e, h p g' h1 h2 ok'⟩
end
/-! ### plain: dicts of texts -/
end DL
namespace DL
open PySem PySem.Spec PyProof.Rows L2
/-! ### rows that are let -/
end DL
namespace DL
open PySem PySem.Spec PyProof.Rows L2
end DL
namespace DL
open PySem PySem.Spec PyProof.Rows L2
/-! ### wpT, as rules for simp -/
section
variable {α β γ ρ : Type} {g : Dk}
theorem wp_bind {m : TM α} {k : α → TM β} {Q : β → Dk → Prop} : wpT (bindT m k) g Q ↔ wpT m g fun a g => wpT (k a) g Q := by
  constructor
  · rintro ⟨b, g', e, q⟩
    obtain ⟨a, g1, e1, e2⟩ := bind_eq e
    exact ⟨a, g1, e1, b, g', e2, q⟩
  · exact wpT_bind
theorem wp_pureI {a : α} {Q : α → Dk → Prop} : wpT (pureT a) g Q ↔ Q a g := ⟨fun ⟨_, _, e, q⟩ => by obtain ⟨rfl, rfl⟩ := pure_eq e; exact q, wpT_pure⟩
theorem wp_bindF {m : TM (Flo β ρ)} {k : β → TM ρ} {Q : ρ → Dk → Prop} : wpT (bindF m k) g Q ↔ wpT m g fun r g => match r with | .nx b => wpT (k b) g Q | .rt r => Q r g := by
  unfold bindF
  rw [wp_bind]
  constructor
  · intro h; refine wpT_mono h fun r g1 h1 => ?_; cases r with
    | nx b => exact h1
    | rt r => exact wp_pureI.mp h1
  · intro h; refine wpT_mono h fun r g1 h1 => ?_; cases r with
    | nx b => exact h1
    | rt r => exact wp_pureI.mpr h1
end
theorem rngT_eq {n : Nat} (h : n ≤ 10000000) : rngT (n : Int) = some ((List.range n).map fun (i : Nat) => (i : Int)) := by
  unfold rngT
  rw [if_pos ⟨by omega, by omega, by rw [sizeLine_eq]; omega⟩, Int.toNat_natCast]
  unfold rngI
  simp
theorem rngT_lit (i : Int) (n : Nat) (hi : i = (n : Int) := by rfl) (h : n ≤ 10000000 := by decide) : rngT i = some ((List.range n).map fun (j : Nat) => (j : Int)) := by rw [hi]; exact rngT_eq h
/-! ### a number that is drawn -/
end DL
namespace DL
open PySem PySem.Spec PyProof.Rows L2
/-- spots that are found -/
structure Spts (dl : List (Str × Str)) (m : Nat) (l : List (Spot × Bool)) : Prop where
  nd : (l.map (·.1)).Nodup
  sp : ∀ s ∈ l.map (·.1), s.1 ∈ dl.map (·.2) ∧ 0 ≤ s.2 ∧ s.2 ≤ 99
  len : l.length ≤ m
theorem Spts.put {dl : List (Str × Str)} {m : Nat} {l : List (Spot × Bool)} (h : Spts dl m l) {s : Spot} {b : Bool} (h1 : s.1 ∈ dl.map (·.2)) (h2 : 0 ≤ s.2 ∧ s.2 ≤ 99) : Spts dl (m + 1) (gput l s b) :=
  ⟨gput_nodup h.nd, fun x hx => by
    rcases gput_keys.mp hx with rfl | hx
    · exact ⟨h1, h2⟩
    · exact h.sp x hx, by have := gput_len l s b; have := h.len; omega⟩
end DL
namespace DL
open PySem PySem.Spec PyProof.Rows L2
theorem Fi.repr_list {N k : Nat} {l : List D} (h : ∀ d ∈ l, Fi N k d) (hl : l.length ≤ 10) (hN : N ≤ 900000) (hk : k ≤ 90) : l1 opRepr (eL eA l) = some (.str (D.lst l).py.shown) := by
  have e : eL eA l = .lst l := by unfold eL; congr 1; exact (List.map_congr_left fun _ _ => rfl).trans (List.map_id l)
  have f := Fi.repr (n := 10 * (N + 2) + 3) (k := k + 1) (Fi.list_lst (B := N) (L := 10) (k := k) h hl (Nat.le_refl _)) (by omega) (by omega)
  rw [e]
  unfold l1
  rw [f]
end DL
namespace DL
open PySem PySem.Spec PyProof.Rows L2
/-! ### rules let what plans show -/
end DL
namespace DL
open PySem PySem.Spec PyProof.Rows L2
end DL
namespace DL
open PySem PySem.Spec PyProof.Rows L2
/-! ### full rows, table by table -/
end DL
namespace DL
open PySem PySem.Spec PyProof.Rows L2
/-! ### plans, looked at -/
def pTag : Plan → Str
  | .all _ => "all"
  | .thin _ _ _ => "thin"
  | .two w _ _ => w.nm
def pSub : Plan → Int → Option Plan
  | .all _, _ => none
  | .thin p _ _, i => if i = 1 then some p else none
  | .two _ p q, i => if i = 1 then some p else if i = 2 then some q else none
def pStr : Plan → Int → Option Str
  | .all t, i => if i = 1 then some t else none
  | .thin _ c _, i => if i = 2 then some c else none
  | .two _ _ _, _ => none
def pRate : Plan → Int → Option Rt
  | .thin _ _ r, i => if i = 3 then some r else none
  | _, _ => none
theorem o_pTag (p : Plan) : opIx (planE p) (.int 0) = some (sOf false (.str (pTag p))) := by show _ = some (S.sh _); cases p <;> (unfold planE pTag; simp)
theorem o_pSub (p : Plan) (i : Int) (q : Plan) (h : pSub p i = some q) : opIx (planE p) (.int i) = some (sOf false (planE q)) := by
  show _ = some (S.sh _)
  cases p with
  | all t => simp [pSub] at h
  | thin p c r =>
    simp only [pSub] at h
    by_cases e : i = 1
    · rw [if_pos e] at h; cases h; subst e; unfold planE; simp; try (cases q <;> rfl)
    · rw [if_neg e] at h; cases h
  | two w p r =>
    simp only [pSub] at h
    by_cases e : i = 1
    · rw [if_pos e] at h; cases h; subst e; unfold planE; simp; try (cases q <;> rfl)
    · rw [if_neg e] at h
      by_cases e2 : i = 2
      · rw [if_pos e2] at h; cases h; subst e2; unfold planE; simp; try (cases q <;> rfl)
      · rw [if_neg e2] at h; cases h
theorem o_pStr (p : Plan) (i : Int) (s : Str) (h : pStr p i = some s) : opIx (planE p) (.int i) = some (sOf false (.str s)) := by
  show _ = some (S.sh _)
  cases p with
  | all t =>
    simp only [pStr] at h
    by_cases e : i = 1
    · rw [if_pos e] at h; cases h; subst e; unfold planE; simp
    · rw [if_neg e] at h; cases h
  | thin p c r =>
    simp only [pStr] at h
    by_cases e : i = 2
    · rw [if_pos e] at h; cases h; subst e; unfold planE; simp
    · rw [if_neg e] at h; cases h
  | two w p r => simp [pStr] at h
theorem o_pRate (p : Plan) (i : Int) (r : Rt) (h : pRate p i = some r) : opIx (planE p) (.int i) = some (sOf false (rateE r)) := by
  show _ = some (S.sh _)
  cases p with
  | all t => simp [pRate] at h
  | thin p c r =>
    simp only [pRate] at h
    by_cases e : i = 3
    · rw [if_pos e] at h; cases h; subst e; unfold planE; simp
    · rw [if_neg e] at h; cases h
  | two w p r => simp [pRate] at h
end DL
namespace DL
open PySem PySem.Spec PyProof.Rows L2
end DL
namespace DL
open PySem PySem.Spec PyProof.Rows L2
/-! ### data that is shown, by the length of its text -/
structure Fr (n k : Nat) (d : D) : Prop where
  ok : okD d = true
  sh : d.py.shown.length ≤ n
  dp : d.py.depth ≤ k
theorem Fr.mono {n k n' k' : Nat} {d : D} (h : Fr n k d) (h1 : n ≤ n') (h2 : k ≤ k') : Fr n' k' d := ⟨h.ok, Nat.le_trans h.sh h1, Nat.le_trans h.dp h2⟩
theorem piled_fr {B k : Nat} : ∀ {l : List D}, (∀ d ∈ l, Fr B k d) → piled (PyData.shownAll (D.pys l)) ≤ l.length * (B + 2)
  | [], _ => by simp [D.pys, PyData.shownAll, piled]
  | d :: l, h => by
    simp only [D.pys, PyData.shownAll, piled_cons, List.length_cons]
    have := (h d List.mem_cons_self).sh
    have := piled_fr (l := l) fun d hd => h d (List.mem_cons_of_mem _ hd)
    rw [Nat.add_mul]
    omega
theorem Fr.tup {B k L N : Nat} {l : List D} (h : ∀ d ∈ l, Fr B k d) (hl : l.length ≤ L) (hN : L * (B + 2) + 3 ≤ N) : Fr N (k + 1) (.tup l) :=
  ⟨by simp only [okD]; exact okDs_iff.mpr fun d hd => (h d hd).ok, by
    simp only [D.py, PyData.shown]
    have := tupleText_le (PyData.shownAll (D.pys l))
    have := piled_fr h
    have : l.length * (B + 2) ≤ L * (B + 2) := Nat.mul_le_mul_right _ hl
    omega, by simp only [D.py, PyData.depth]; have := depthAll_le fun d hd => (h d hd).dp; omega⟩
theorem Fr.lst {B k L N : Nat} {l : List D} (h : ∀ d ∈ l, Fr B k d) (hl : l.length ≤ L) (hN : L * (B + 2) + 3 ≤ N) : Fr N (k + 1) (.lst l) :=
  ⟨by simp only [okD]; exact okDs_iff.mpr fun d hd => (h d hd).ok, by
    simp only [D.py, PyData.shown]
    have := listText_le (PyData.shownAll (D.pys l))
    have := piled_fr h
    have : l.length * (B + 2) ≤ L * (B + 2) := Nat.mul_le_mul_right _ hl
    omega, by simp only [D.py, PyData.depth]; have := depthAll_le fun d hd => (h d hd).dp; omega⟩
end DL
namespace DL
open PySem PySem.Spec PyProof.Rows L2
end DL
namespace DL
open PySem PySem.Spec PyProof.Rows L2
end DL
namespace DL
open PySem PySem.Spec PyProof.Rows L2
instance : Shp trE := ⟨.inl fun _ => rfl⟩
end DL
namespace DL
open PySem PySem.Spec PyProof.Rows L2
end DL
namespace DL
open PySem PySem.Spec PyProof.Rows L2
end DL
namespace DL
open PySem PySem.Spec PyProof.Rows L2
/-! ### within, beyond -/
section
variable {dl : List (Str × Str)} {hs : List (Str × List Str)} {fr : List Str} {ts : List (List (List Int))} {F : List Trip} {p q : Plan} {g : Dk} {n : Nat}
theorem any_map {α : Type} {l : List α} {f : α → Bool} : (l.map f).any id = l.any f := by rw [List.any_map]; rfl
end
end DL
namespace DL
open PySem PySem.Spec PyProof.Rows L2
end DL
namespace DL
open PySem PySem.Spec PyProof.Rows L2
/-! ### slices of plans as data -/
def pw2 (s : Str) (p q : Plan) : Option Plan := if s = "join" then some (.two .join p q) else if s = "either" then some (.two .either p q) else if s = "meet" then some (.two .meet p q) else none
theorem pw2_ok {s : Str} {p q z : Plan} (h : pw2 s p q = some z) : D.tup [.str s, planE p, planE q] = planE z := by
  unfold pw2 at h
  split at h
  · rename_i e; cases h; subst e; rfl
  · split at h
    · rename_i e; cases h; subst e; rfl
    · split at h
      · rename_i e; cases h; subst e; rfl
      · cases h
end DL
namespace DL
open PySem PySem.Spec PyProof.Rows L2
/-! ### dicts with nested keys, typed -/
end DL
namespace DL
open PySem PySem.Spec PyProof.Rows L2
section
variable {α : Type} {e : α → D} {k : Nat}
class SetTp (e : α → D) : Prop where
  ok : ∀ l : List α, (ssE e l).length < 305 → okSM (l.map e) = true
theorem setTp_of [Ky e k] [Inj e] (h : ∀ a, isTp (e a) = true) (hk : k ≤ 8) : SetTp e := ⟨fun l hl => by
  simp only [okSM, Bool.and_eq_true, List.all_eq_true, decide_eq_true_eq]
  refine ⟨⟨fun d hd => ?_, fun a ha b hb => ?_⟩, by rw [ssE_map, List.length_map]; exact hl⟩
  · obtain ⟨a, _, rfl⟩ := List.mem_map.mp hd
    obtain ⟨n1, e1, h1⟩ := Ky.nk (e := e) a
    have ht := h a
    cases he : e a with
    | tup ds =>
      rw [he] at e1
      simp only [nkD] at e1 ⊢
      obtain ⟨ks, e2, rfl⟩ := Option.map_eq_some_iff.mp e1
      rw [e2]
      exact decide_eq_true (p := NestedKey.depth (.tup ks) ≤ 8) (by omega)
    | _ => rw [he] at ht; cases ht
  · obtain ⟨a, _, rfl⟩ := List.mem_map.mp ha
    obtain ⟨b, _, rfl⟩ := List.mem_map.mp hb
    exact Ky.al a b⟩
instance : SetTp rowE := setTp_of (k := 1) (fun _ => rfl) (by decide)
instance : SetTp wayE := setTp_of (k := 3) (fun _ => rfl) (by decide)
end
end DL
namespace DL
open PySem PySem.Spec PyProof.Rows L2
/-! a dict's display, typed -/
end DL
/-! TB9: a list that is lent; list(range(n)); x[k] = v of a list; index in ints. -/
namespace DL
open PySem PySem.Spec PyProof.Rows L2
section
variable {α β γ δ : Type} {Γ Γ1 Γ2 : Sl} {ea : α → D} {eb : β → D} {ec : γ → D} {ma : TM α} {mb : TM β} {e e1 e2 : M Dk S} {u : M Dk (List D × S)} {ow : Bool} {i j : Nat}
instance : Dat (eO D.int) 0 := ⟨fun a => by cases a <;> rfl, fun a => by cases a <;> simp [eO, D.py, PyData.depth], fun a b => by
  cases a <;> cases b <;> simp [eO, D.py, PyData.eqv]⟩
/-! list(range(n)) -/
/-! x[k] = v -/
/-! index -/
end
end DL
/-! TB10: texts, typed. -/
namespace DL
open PySem PySem.Spec PyProof.Rows L2
section
variable {α β γ : Type} {Γ Γ1 Γ2 Γ' : Sl} {ea : α → D} {ma : TM α} {e e1 e2 : M Dk S} {fl fh : M Dk (Option Int)} {x : Str} {l h : Option Int}
@[irreducible] def chT (x : Str) (i : Int) : Option Str := if x.length ≤ sizeLine then (atI x.cps.toList i).map fun c => ⟨#[c]⟩ else none
theorem o_ixS : ∀ (x : Str) (i : Int) z, chT x i = some z → opIx (.str x) (.int i) = some (sOf false (.str z)) := fun x i z h => by
  unfold chT at h
  split at h
  · rename_i hc
    obtain ⟨c, e, rfl⟩ := Option.map_eq_some_iff.mp h
    simp only [opIx, hc, if_true, e, Option.map_some]; rfl
  · cases h
@[irreducible] def slT (x : Str) (l h : Option Int) : Option Str := if x.length ≤ sizeLine then some (L2.cutS x l h) else none
theorem en_slS (ha : EP Γ e1 (pureT x) D.str Γ) (hl : EO Γ fl (pureT l)) (hh : EO Γ fh (pureT h)) : EN Γ (mSl e1 fl fh) (optT (slT x l h)) false D.str Γ := fun st g a g' hs hm => by
  obtain ⟨ho, rfl⟩ := opt_eq hm
  obtain ⟨s1, st1, h4, hs1, p1⟩ := ha st g x g hs rfl
  obtain ⟨st2, h5, hs2⟩ := hl st1 g l g hs1 rfl
  obtain ⟨st3, h6, hs3⟩ := hh st2 g h g hs2 rfl
  refine ⟨st3, ?_, hs3⟩
  unfold slT at ho
  split at ho
  · rename_i hc
    cases ho
    unfold mSl
    rw [h4, bnd_some, h5, bnd_some, h6, bnd_some, p1 _ hs3]
    simp only [Option.bind_some, opSl, hc, if_true, Option.map_some]; rfl
  · cases ho
@[irreducible] def chsT (x : Str) : Option (List Str) := if x.cps.size ≤ sizeLine then some (x.cps.toList.map fun c => ⟨#[c]⟩) else none
theorem ei_str {mx : TM Str} (he : ET Γ e mx D.str Γ1) : EI Γ (srcSeq e) (bindT mx fun x => optT (chsT x)) D.str Γ1 := fun st g a g' hs hm => by
  obtain ⟨x, g1, m1, hm⟩ := bind_eq hm
  obtain ⟨ho, rfl⟩ := opt_eq hm
  obtain ⟨st', h1, h2⟩ := he st g x g1 hs m1
  unfold chsT at ho
  split at ho
  · rename_i hc
    cases ho
    refine ⟨[], st', ?_, h2⟩
    unfold srcSeq
    rw [h1, bnd_some]
    simp only [hc, if_true, chars, List.map_map]
    rfl
  · cases ho
theorem o_inS (x y : Str) : opIn false (.str x) (.str y) = some (sOf false (.bl (subStr x y))) := by simp [opIn, sOf]
@[irreducible] def strT (i : Int) : Option Str := if i.natAbs.log2 < 1920 then some (toString i) else none
theorem o_strI : ∀ (i : Int) z, strT i = some z → opStrI (.int i) = some (sOf false (.str z)) := fun i z h => by
  unfold strT at h
  split at h
  · rename_i hc; cases h; simp only [opStrI, hc, if_true]; rfl
  · cases h
theorem o_fmtI : ∀ (i : Int) z, strT i = some z → opFmt (.int i) = some (sOf false (.str z)) := fun i z h => by
  unfold strT at h
  split at h
  · rename_i hc; cases h; simp only [opFmt, hc, if_true]; rfl
  · cases h
@[irreducible] def fmtT (x : Str) : Option Str := if x.length ≤ sizeLine then some x else none
theorem o_fmtS : ∀ (x : Str) z, fmtT x = some z → opFmt (.str x) = some (sOf false (.str z)) := fun x z h => by
  unfold fmtT at h
  split at h
  · rename_i hc; cases h; simp only [opFmt, hc, if_true]; rfl
  · cases h
@[irreducible] def intT (x : Str) : Option Int := if x.length ≤ 640 then PySem.intText? x else none
theorem o_intS : ∀ (x : Str) z, intT x = some z → opIntS (.str x) = some (sOf false (.int z)) := fun x z h => by
  unfold intT at h
  split at h
  · rename_i hc; simp only [opIntS, hc, if_true, h, Option.map_some]; rfl
  · cases h
theorem o_addI (a b : Int) : opAddI (.int a) (.int b) = some (sOf false (.int (a + b))) := rfl
def lenS (x : Str) : Option Int := if x.length ≤ sizeLine then some (x.length : Int) else none
theorem en_opR {ow : Bool} {eb : β → D} {ec : γ → D} {op : D → D → Option S} {f : α → Option γ} {y : β} (ha : EP Γ e1 ma ea Γ1) (hb : EP Γ1 e2 (pureT y) eb Γ1) (ho : ∀ x z, f x = some z → op (ea x) (eb y) = some (sOf ow (ec z))) : EN Γ (mOp op e1 e2) (bindT ma fun x => optT (f x)) ow ec Γ1 := fun st g a g' hs hm => by
  obtain ⟨x, g1, m1, hm⟩ := bind_eq hm
  obtain ⟨ho', rfl⟩ := opt_eq hm
  obtain ⟨s1, st1, h1, hs1, p1⟩ := ha st g x g1 hs m1
  obtain ⟨s2, st2, h2, hs2, p2⟩ := hb st1 g1 y g1 hs1 rfl
  refine ⟨st2, ?_, hs2⟩
  unfold mOp
  rw [h1, bnd_some, h2, bnd_some, p1 _ hs2, Option.bind_some, p2 _ hs2, Option.bind_some, ho x a ho']
  rfl
/-! f-strings -/
def jsT : List (TM Str) → Str → TM Str
  | [], acc => pureT acc
  | m :: ms, acc => bindT m fun y => bindT (optT (catS acc y)) fun acc' => jsT ms acc'
def EJ (Γ : Sl) (fs : List (M Dk S)) (ms : List (TM Str)) (Γ' : Sl) : Prop := ∀ acc st g a g', Sat Γ st → jsT ms acc g = some (a, g') → ∃ st', mJs fs acc st g = some (.sh (.str a), st', g') ∧ Sat Γ' st'
theorem ej_nil : EJ Γ [] [] Γ := fun acc st g a g' hs hm => by
  obtain ⟨rfl, rfl⟩ := pure_eq hm
  exact ⟨st, rfl, hs⟩
theorem ej_cons {m : TM Str} {fs : List (M Dk S)} {ms : List (TM Str)} (he : EN Γ e m false D.str Γ1) (hr : EJ Γ1 fs ms Γ2) : EJ Γ (e :: fs) (m :: ms) Γ2 := fun acc st g a g' hs hm => by
  obtain ⟨y, g1, m1, hm⟩ := bind_eq hm
  obtain ⟨acc', g2, m2, hm⟩ := bind_eq hm
  obtain ⟨ho, rfl⟩ := opt_eq m2
  obtain ⟨st1, h1, hs1⟩ := he st g y g1 hs m1
  obtain ⟨st2, h2, hs2⟩ := hr acc' st1 g1 a g' hs1 hm
  unfold catS at ho
  split at ho
  · rename_i hc
    cases ho
    refine ⟨st2, ?_, hs2⟩
    unfold mJs
    rw [h1, bnd_some]
    simp only [sOf]
    rw [if_pos (by rw [Str.length_append]; exact hc)]
    exact h2
  · cases ho
theorem en_joined {fs : List (M Dk S)} {ms : List (TM Str)} (h : EJ Γ fs ms Γ') : EN Γ (mJs fs Str.empty) (jsT ms Str.empty) false D.str Γ' := fun st g a g' hs hm => h Str.empty st g a g' hs hm
/-! never -/
theorem sn_never {Γb : β → Sl} : JN Γ mNever (failT : TM β) Γb := fun st g a g' hs hm => nomatch hm
theorem sb_never {ρ : Type} {er : ρ → D} : JB Γ mNever (failT : TM ρ) er := fun st g a g' hs hm => nomatch hm
end
end DL
namespace DL
open PySem PySem.Spec PyProof.Rows L2
noncomputable def B_rate_text : M Dk Fl := (mRet (mJs [(mUn opFmt (mOp opIx (mVar 0) (mC (.int 0)))), (mC (.str "/")), (mUn opFmt (mOp opIx (mVar 0) (mC (.int 1))))] Str.empty))
noncomputable def F_rate_text : Fn Dk := mFn 1 1 B_rate_text
noncomputable def B_plan_text (r_plan_text : Fn Dk) : M Dk Fl := (mSeq (mIf (mTest (mOp opEq (mOp opIx (mVar 0) (mC (.int 0))) (mC (.str "all")))) (mRet (mOp opAdd (mC (.str "all ")) (mOp opIx (mVar 0) (mC (.int 1))))) mNext) (mSeq (mIf (mTest (mOp opEq (mOp opIx (mVar 0) (mC (.int 0))) (mC (.str "thin")))) (mRet (mJs [(mC (.str "thin(")), (mUn opFmt (mCall r_plan_text (mCons (mOp opIx (mVar 0) (mC (.int 1))) mNil))), (mC (.str ", ")), (mUn opFmt (mOp opIx (mVar 0) (mC (.int 2)))), (mC (.str ", ")), (mUn opFmt (mCall F_rate_text (mCons (mOp opIx (mVar 0) (mC (.int 3))) mNil))), (mC (.str ")"))] Str.empty)) mNext) (mRet (mJs [(mUn opFmt (mOp opIx (mVar 0) (mC (.int 0)))), (mC (.str "(")), (mUn opFmt (mCall r_plan_text (mCons (mOp opIx (mVar 0) (mC (.int 1))) mNil))), (mC (.str ", ")), (mUn opFmt (mCall r_plan_text (mCons (mOp opIx (mVar 0) (mC (.int 2))) mNil))), (mC (.str ")"))] Str.empty))))
noncomputable def F_plan_text : Nat → Fn Dk
  | 0 => fun _ _ => none
  | k + 1 => mFn 1 1 (B_plan_text (F_plan_text k))
abbrev fu_plan_text : Nat := 30
noncomputable def L_passed_0 : M Dk Fl := (mSeq (mIf (mTest (mOp opNe (mSl (mVar 0) (mPart (mVar 1)) (mPart (mOp opAdd (mVar 1) (mC (.int 1))))) (mVar 3))) mNever mNext) (mSet 1 (mOp opAddI (mVar 1) (mC (.int 1)))))
noncomputable def B_passed : M Dk Fl := (mSeq (mFor (srcSeq (mVar 2)) (.nm 3) L_passed_0) (mRet (mVar 1)))
noncomputable def F_passed : Fn Dk := mFn 3 4 B_passed
noncomputable def W_read_name_0 : M Dk Bool := (mAnd (mTest (mOp (opCmp .Lt) (mVar 2) (mUn opLen (mVar 0)))) (mAnd (mTest (mOp (opCmp .Lt) (mOp opSub (mVar 2) (mVar 1)) (mC (.int 6)))) (mTest (mOp (opIn false) (mOp opIx (mVar 0) (mVar 2)) (mC (.str "abcdefghijklmnopqrstuvwxyz"))))))
noncomputable def L_read_name_1 : M Dk Fl := (mSet 2 (mOp opAddI (mVar 2) (mC (.int 1))))
noncomputable def B_read_name : M Dk Fl := (mSeq (mSet 2 (mVar 1)) (mSeq (mWhile W_read_name_0 L_read_name_1) (mSeq (mIf (mTest (mOp opEq (mVar 2) (mVar 1))) mNever mNext) (mRet (mTup (mCons (mSl (mVar 0) (mPart (mVar 1)) (mPart (mVar 2))) (mCons (mVar 2) mNil)))))))
noncomputable def F_read_name : Fn Dk := mFn 2 3 B_read_name
noncomputable def W_read_number_0 : M Dk Bool := (mAnd (mTest (mOp (opCmp .Lt) (mVar 2) (mUn opLen (mVar 0)))) (mAnd (mTest (mOp (opCmp .Lt) (mOp opSub (mVar 2) (mVar 1)) (mC (.int 4)))) (mAnd (mTest (mOp (opIn false) (mOp opIx (mVar 0) (mVar 2)) (mC (.str "0123456789")))) (mTest (mOp opNe (mOp opIx (mVar 0) (mVar 1)) (mC (.str "0")))))))
noncomputable def L_read_number_1 : M Dk Fl := (mSet 2 (mOp opAddI (mVar 2) (mC (.int 1))))
noncomputable def B_read_number : M Dk Fl := (mSeq (mSet 2 (mVar 1)) (mSeq (mWhile W_read_number_0 L_read_number_1) (mSeq (mIf (mTest (mOp opEq (mVar 2) (mVar 1))) mNever mNext) (mRet (mTup (mCons (mUn opIntS (mSl (mVar 0) (mPart (mVar 1)) (mPart (mVar 2)))) (mCons (mVar 2) mNil)))))))
noncomputable def F_read_number : Fn Dk := mFn 2 3 B_read_number
noncomputable def L_word_at_0 : M Dk Fl := (mIf (mTest (mOp opEq (mSl (mVar 0) (mPart (mVar 1)) (mPart (mOp opAdd (mVar 1) (mC (.int 1))))) (mOp opIx (mVar 2) (mC (.int 0))))) (mRet (mTup (mCons (mSl (mVar 2) mNoP (mPart (mUn opNeg (mC (.int 1))))) (mCons (mCall F_passed (mCons (mVar 0) (mCons (mVar 1) (mCons (mVar 2) mNil)))) mNil)))) mNext)
noncomputable def B_word_at : M Dk Fl := (mSeq (mFor (srcSeq (mTup (mCons (mC (.str "all ")) (mCons (mC (.str "thin(")) (mCons (mC (.str "join(")) (mCons (mC (.str "either(")) (mCons (mC (.str "meet(")) mNil))))))) (.nm 2) L_word_at_0) mNever)
noncomputable def F_word_at : Fn Dk := mFn 2 3 B_word_at
noncomputable def B_read_some (r_read_some : Fn Dk) : M Dk Fl := (mSeq (mUnp (.tp [(.nm 2), (.nm 1)]) (mCall F_word_at (mCons (mVar 0) (mCons (mVar 1) mNil)))) (mSeq (mIf (mTest (mOp opEq (mVar 2) (mC (.str "all")))) (mSeq (mUnp (.tp [(.nm 5), (.nm 1)]) (mCall F_read_name (mCons (mVar 0) (mCons (mVar 1) mNil)))) (mRet (mTup (mCons (mTup (mCons (mC (.str "all")) (mCons (mVar 5) mNil))) (mCons (mVar 1) mNil))))) mNext) (mSeq (mUnp (.tp [(.nm 3), (.nm 1)]) (mCall r_read_some (mCons (mVar 0) (mCons (mVar 1) mNil)))) (mSeq (mSet 1 (mCall F_passed (mCons (mVar 0) (mCons (mVar 1) (mCons (mC (.str ", ")) mNil))))) (mSeq (mIf (mTest (mOp opEq (mVar 2) (mC (.str "thin")))) (mSeq (mUnp (.tp [(.nm 6), (.nm 1)]) (mCall F_read_name (mCons (mVar 0) (mCons (mVar 1) mNil)))) (mSeq (mUnp (.tp [(.nm 7), (.nm 1)]) (mCall F_read_number (mCons (mVar 0) (mCons (mCall F_passed (mCons (mVar 0) (mCons (mVar 1) (mCons (mC (.str ", ")) mNil)))) mNil)))) (mSeq (mUnp (.tp [(.nm 8), (.nm 1)]) (mCall F_read_number (mCons (mVar 0) (mCons (mCall F_passed (mCons (mVar 0) (mCons (mVar 1) (mCons (mC (.str "/")) mNil)))) mNil)))) (mRet (mTup (mCons (mTup (mCons (mC (.str "thin")) (mCons (mVar 3) (mCons (mVar 6) (mCons (mTup (mCons (mVar 7) (mCons (mVar 8) mNil))) mNil))))) (mCons (mCall F_passed (mCons (mVar 0) (mCons (mVar 1) (mCons (mC (.str ")")) mNil)))) mNil))))))) mNext) (mSeq (mUnp (.tp [(.nm 4), (.nm 1)]) (mCall r_read_some (mCons (mVar 0) (mCons (mVar 1) mNil)))) (mRet (mTup (mCons (mTup (mCons (mVar 2) (mCons (mVar 3) (mCons (mVar 4) mNil)))) (mCons (mCall F_passed (mCons (mVar 0) (mCons (mVar 1) (mCons (mC (.str ")")) mNil)))) mNil))))))))))
noncomputable def F_read_some : Nat → Fn Dk
  | 0 => fun _ _ => none
  | k + 1 => mFn 2 9 (B_read_some (F_read_some k))
abbrev fu_read_some : Nat := 30
noncomputable def B_looked_over (r_looked_over : Fn Dk) : M Dk Fl := (mSeq (mIf (mTest (mOp opEq (mOp opIx (mVar 1) (mC (.int 0))) (mC (.str "all")))) (mSeq (mIf (mTest (mOp (opIn true) (mOp opIx (mVar 1) (mC (.int 1))) (mCall F_tables_in (mCons (mVar 0) mNil)))) mNever mNext) (mRet (mTup (mCons (mTup (mCons (mOp opIx (mVar 1) (mC (.int 1))) mNil)) (mCons (mOp opAdd (mVar 2) (mC (.int 1))) mNil))))) mNext) (mSeq (mUnp (.tp [(.nm 3), (.nm 4)]) (mCall r_looked_over (mCons (mVar 0) (mCons (mOp opIx (mVar 1) (mC (.int 1))) (mCons (mOp opAdd (mVar 2) (mC (.int 1))) mNil))))) (mSeq (mIf (mTest (mOp opEq (mOp opIx (mVar 1) (mC (.int 0))) (mC (.str "thin")))) (mSeq (mIf (mOr (mTest (mOp (opIn true) (mOp opIx (mVar 1) (mC (.int 2))) (mCall F_columns_of (mCons (mVar 0) (mCons (mVar 3) mNil))))) (mNot (mTest (mCall F_is_rate (mCons (mOp opIx (mVar 1) (mC (.int 3))) mNil))))) mNever mNext) (mRet (mTup (mCons (mVar 3) (mCons (mVar 4) mNil))))) mNext) (mSeq (mUnp (.tp [(.nm 5), (.nm 4)]) (mCall r_looked_over (mCons (mVar 0) (mCons (mOp opIx (mVar 1) (mC (.int 2))) (mCons (mVar 4) mNil))))) (mSeq (mIf (mAnd (mTest (mOp opNe (mOp opIx (mVar 1) (mC (.int 0))) (mC (.str "join")))) (mTest (mOp opNe (mVar 3) (mVar 5)))) mNever mNext) (mRet (mTup (mCons (mCall F_united (mCons (mVar 3) (mCons (mVar 5) mNil))) (mCons (mVar 4) mNil)))))))))
noncomputable def F_looked_over : Nat → Fn Dk
  | 0 => fun _ _ => none
  | k + 1 => mFn 3 6 (B_looked_over (F_looked_over k))
abbrev fu_looked_over : Nat := 30
noncomputable def B_read_plan : M Dk Fl := (mSeq (mUnp (.tp [(.nm 3), (.nm 4)]) (mCall (F_read_some fu_read_some) (mCons (mVar 1) (mCons (mC (.int 0)) mNil)))) (mSeq (mIf (mTest (mOp (opCmp .Lt) (mVar 4) (mUn opLen (mVar 1)))) mNever mNext) (mSeq (mSet 2 (mOp opIx (mCall (F_looked_over fu_looked_over) (mCons (mVar 0) (mCons (mVar 3) (mCons (mC (.int 0)) mNil)))) (mC (.int 1)))) (mSeq (mIf (mTest (mOp (opCmp .Gt) (mVar 2) (mC (.int 12)))) mNever mNext) (mRet (mVar 3))))))
noncomputable def F_read_plan : Fn Dk := mFn 2 5 B_read_plan
noncomputable def B__law_text (r__law_text : Fn Dk) : M Dk Fl := (mSeq (mIf (mTest (mOp opEq (mOp opIx (mVar 0) (mC (.int 0))) (mC (.str "all")))) (mRet (mOp opAdd (mC (.str "all ")) (mOp opIx (mVar 0) (mC (.int 1))))) mNext) (mSeq (mIf (mTest (mOp opEq (mOp opIx (mVar 0) (mC (.int 0))) (mC (.str "thin")))) (mSeq (mSet 1 (mShr (mOp opAdd (mOp opAdd (mUn opStrI (mOp opIx (mOp opIx (mVar 0) (mC (.int 3))) (mC (.int 0)))) (mC (.str "/"))) (mUn opStrI (mOp opIx (mOp opIx (mVar 0) (mC (.int 3))) (mC (.int 1))))))) (mRet (mOp opAdd (mOp opAdd (mOp opAdd (mOp opAdd (mOp opAdd (mOp opAdd (mC (.str "thin(")) (mCall r__law_text (mCons (mOp opIx (mVar 0) (mC (.int 1))) mNil))) (mC (.str ", "))) (mOp opIx (mVar 0) (mC (.int 2)))) (mC (.str ", "))) (mVar 1)) (mC (.str ")"))))) mNext) (mRet (mOp opAdd (mOp opAdd (mOp opAdd (mOp opAdd (mOp opAdd (mOp opIx (mVar 0) (mC (.int 0))) (mC (.str "("))) (mCall r__law_text (mCons (mOp opIx (mVar 0) (mC (.int 1))) mNil))) (mC (.str ", "))) (mCall r__law_text (mCons (mOp opIx (mVar 0) (mC (.int 2))) mNil))) (mC (.str ")"))))))
noncomputable def F__law_text : Nat → Fn Dk
  | 0 => fun _ _ => none
  | k + 1 => mFn 1 2 (B__law_text (F__law_text k))
abbrev fu__law_text : Nat := 30
noncomputable def T_rate_text (p_rate : Rt) : TM Str :=
  (jsT [(optT (strT ((p_rate.1 : Nat) : Int))), (pureT ("/" : Str)), (optT (strT ((p_rate.2 : Nat) : Int)))] Str.empty)
theorem S_rate_text (p_rate : Rt) {g g' : Dk} {r : Str} (h : T_rate_text p_rate g = some (r, g')) : F_rate_text [rateE p_rate] g = some (D.str r, g') := by
  have hb : JB [some (.sh (rateE p_rate))] B_rate_text (T_rate_text p_rate) D.str := by
    unfold T_rate_text B_rate_text
    exact (sb_ret (EN.tk (en_joined (ej_cons (en_unP (f := strT) (ec := D.str) (EN.pk (en_opV (z := ((p_rate.1 : Nat) : Int)) (ec := D.int) (EN.pk (en_var rateE p_rate rfl)) (EN.pk (en_c D.int 0 rfl)) (ix20 _ _))) o_fmtI) (ej_cons (en_c D.str "/" rfl) (ej_cons (en_unP (f := strT) (ec := D.str) (EN.pk (en_opV (z := ((p_rate.2 : Nat) : Int)) (ec := D.int) (EN.pk (en_var rateE p_rate rfl)) (EN.pk (en_c D.int 1 rfl)) (ix21 _ _))) o_fmtI) ej_nil))))))
  exact fn_ok hb rfl rfl h
noncomputable def T_plan_text (k_ : Nat) (p_plan : Plan) : TM Str :=
  (bindT (pureT (eqB (pTag p_plan) ("all") : Bool)) fun b1 => if b1 = true then (bindT (pureT ("all " : Str)) fun x4 => bindT (optT (pStr p_plan 1)) fun y5 => optT (catS x4 y5)) else (bindT (pureT (eqB (pTag p_plan) ("thin") : Bool)) fun b6 => if b6 = true then (jsT [(pureT ("thin(" : Str)), (bindT (bindT (bindT (optT (pSub p_plan 1)) fun x9 => bindT (pureT ()) fun y10 => pureT (x9, y10)) fun a11 => callT (F_plan_text k_) D.str [planE a11.1]) fun x12 => optT (fmtT x12)), (pureT (", " : Str)), (bindT (optT (pStr p_plan 2)) fun x15 => optT (fmtT x15)), (pureT (", " : Str)), (bindT (bindT (bindT (optT (pRate p_plan 3)) fun x18 => bindT (pureT ()) fun y19 => pureT (x18, y19)) fun a20 => callT F_rate_text D.str [rateE a20.1]) fun x21 => optT (fmtT x21)), (pureT (")" : Str))] Str.empty) else (jsT [(optT (fmtT (pTag p_plan))), (pureT ("(" : Str)), (bindT (bindT (bindT (optT (pSub p_plan 1)) fun x25 => bindT (pureT ()) fun y26 => pureT (x25, y26)) fun a27 => callT (F_plan_text k_) D.str [planE a27.1]) fun x28 => optT (fmtT x28)), (pureT (", " : Str)), (bindT (bindT (bindT (optT (pSub p_plan 2)) fun x31 => bindT (pureT ()) fun y32 => pureT (x31, y32)) fun a33 => callT (F_plan_text k_) D.str [planE a33.1]) fun x34 => optT (fmtT x34)), (pureT (")" : Str))] Str.empty)))
theorem S_plan_text (k_ : Nat) (p_plan : Plan) {g g' : Dk} {r : Str} (h : T_plan_text k_ p_plan g = some (r, g')) : F_plan_text (k_ + 1) [planE p_plan] g = some (D.str r, g') := by
  have hb : JB [some (.sh (planE p_plan))] (B_plan_text (F_plan_text k_)) (T_plan_text k_ p_plan) D.str := by
    unfold T_plan_text B_plan_text
    exact (sb_ifret (eb_test (en_opV (z := eqB (pTag p_plan) ("all")) (ec := D.bl) (EN.pk (en_opV (z := pTag p_plan) (ec := D.str) (EN.pk (en_var planE p_plan rfl)) (EN.pk (en_c D.int 0 rfl)) (o_pTag _))) (EN.pk (en_c D.str "all" rfl)) (o_eq (e := D.str) _ _))) (sb_ret (EN.tk (en_op (f := catS) (ec := D.str) (EN.pk (en_c D.str "all " rfl)) (EN.pk (en_opP (f := pStr) (ec := D.str) (EN.pk (en_var planE p_plan rfl)) (EN.pk (en_c D.int 1 rfl)) o_pStr)) o_catS))) (sb_ifret (eb_test (en_opV (z := eqB (pTag p_plan) ("thin")) (ec := D.bl) (EN.pk (en_opV (z := pTag p_plan) (ec := D.str) (EN.pk (en_var planE p_plan rfl)) (EN.pk (en_c D.int 0 rfl)) (o_pTag _))) (EN.pk (en_c D.str "thin" rfl)) (o_eq (e := D.str) _ _))) (sb_ret (EN.tk (en_joined (ej_cons (en_c D.str "thin(" rfl) (ej_cons (en_un (f := fmtT) (ec := D.str) (EN.pk (en_call (ea_cons (EN.tk (en_opP (f := pSub) (ec := planE) (EN.pk (en_var planE p_plan rfl)) (EN.pk (en_c D.int 1 rfl)) o_pSub)) ea_nil))) o_fmtS) (ej_cons (en_c D.str ", " rfl) (ej_cons (en_un (f := fmtT) (ec := D.str) (EN.pk (en_opP (f := pStr) (ec := D.str) (EN.pk (en_var planE p_plan rfl)) (EN.pk (en_c D.int 2 rfl)) o_pStr)) o_fmtS) (ej_cons (en_c D.str ", " rfl) (ej_cons (en_un (f := fmtT) (ec := D.str) (EN.pk (en_call (ea_cons (EN.tk (en_opP (f := pRate) (ec := rateE) (EN.pk (en_var planE p_plan rfl)) (EN.pk (en_c D.int 3 rfl)) o_pRate)) ea_nil))) o_fmtS) (ej_cons (en_c D.str ")" rfl) ej_nil)))))))))) (sb_ret (EN.tk (en_joined (ej_cons (en_unP (f := fmtT) (ec := D.str) (EN.pk (en_opV (z := pTag p_plan) (ec := D.str) (EN.pk (en_var planE p_plan rfl)) (EN.pk (en_c D.int 0 rfl)) (o_pTag _))) o_fmtS) (ej_cons (en_c D.str "(" rfl) (ej_cons (en_un (f := fmtT) (ec := D.str) (EN.pk (en_call (ea_cons (EN.tk (en_opP (f := pSub) (ec := planE) (EN.pk (en_var planE p_plan rfl)) (EN.pk (en_c D.int 1 rfl)) o_pSub)) ea_nil))) o_fmtS) (ej_cons (en_c D.str ", " rfl) (ej_cons (en_un (f := fmtT) (ec := D.str) (EN.pk (en_call (ea_cons (EN.tk (en_opP (f := pSub) (ec := planE) (EN.pk (en_var planE p_plan rfl)) (EN.pk (en_c D.int 2 rfl)) o_pSub)) ea_nil))) o_fmtS) (ej_cons (en_c D.str ")" rfl) ej_nil)))))))))))
  show mFn 1 1 (B_plan_text (F_plan_text k_)) _ _ = _
  exact fn_ok hb rfl rfl h
noncomputable def T_passed (p_text : Str) (p_at : Int) (p_words : Str) : TM Int :=
  (bindT (bindT (optT (chsT p_words)) fun l10 => forT (fun i4 b3 => (bindT (bindT (bindT (optT (slT p_text (some b3) (some (b3 + 1)))) fun x6 => bindT (pureT i4) fun y7 => optT (some (!eqB x6 y7))) fun b8 => if b8 = true then failT else (pureT ())) fun v5 => (bindT (pureT (b3 + 1 : Int)) fun v9 => pureT v9))) l10 p_at) fun v1 => (pureT v1))
theorem S_passed (p_text : Str) (p_at : Int) (p_words : Str) {g g' : Dk} {r : Int} (h : T_passed p_text p_at p_words g = some (r, g')) : F_passed [D.str p_text, D.int p_at, D.str p_words] g = some (D.int r, g') := by
  have hb : JB [some (.sh (D.str p_text)), some (.sh (D.int p_at)), some (.sh (D.str p_words)), none] B_passed (T_passed p_text p_at p_words) D.int := by
    unfold T_passed B_passed
    exact (sb_seq (sn_for (Γb := fun b3 => [some (.sh (D.str p_text)), some (.sh (D.int b3)), some (.sh (D.str p_words)), none]) (Γab := fun i4 b3 => [some (.sh (D.str p_text)), some (.sh (D.int b3)), some (.sh (D.str p_words)), some (.sh (D.str i4))]) (b0 := p_at) (ea := D.str) (show EI _ _ (optT (chsT p_words)) _ _ from ei_str (EN.tk (en_var D.str p_words rfl))) (.s (.s (.s (.n .nil)))) (fun i4 b3 => (as_nm (lt_b rfl) rfl)) (fun i4 b3 => (sn_seq (sn_if (Γb := fun (_ : Unit) => [some (.sh (D.str p_text)), some (.sh (D.int b3)), some (.sh (D.str p_words)), some (.sh (D.str i4))]) (eb_test (en_op (f := (fun x6 y7 => some (!eqB x6 y7))) (ec := D.bl) (EN.pk (show EN _ _ (optT (slT p_text (some b3) (some (b3 + 1)))) _ _ _ from en_slS (EN.pk (en_var D.str p_text rfl)) (po_someV (en_var D.int b3 rfl)) (po_someV (en_opV (z := b3 + 1) (ec := D.int) (EN.pk (en_var D.int b3 rfl)) (EN.pk (en_c D.int 1 rfl)) (o_add _ _))))) (EN.pk (en_var D.str i4 rfl)) (fun _ _ _ h => by cases h; exact (o_ne (e := D.str) _ _)))) sn_never (sn_next (b := ()) (.s (.s (.s (.s .nil)))))) (fun v5 => (sn_wk (f := fun v9 => v9) (sn_set (Γ1 := [some (.sh (D.str p_text)), some (.sh (D.int b3)), some (.sh (D.str p_words)), some (.sh (D.str i4))]) (ea := D.int) (Γ' := fun v9 => [some (.sh (D.str p_text)), some (.sh (D.int v9)), some (.sh (D.str p_words)), some (.sh (D.str i4))]) (en_opV (z := b3 + 1) (ec := D.int) (EN.pk (en_var D.int b3 rfl)) (EN.pk (en_c D.int 1 rfl)) (o_addI _ _)) (lt_b rfl) (fun _ => rfl)) (fun v9 => (.s (.s (.s (.n .nil)))))))))) (fun v1 => (sb_ret (EN.tk (en_var D.int v1 rfl)))))
  exact fn_ok hb rfl rfl h
noncomputable def T_read_name (p_text : Str) (p_at : Int) : TM (Str × Int) :=
  (bindT (pureT p_at) fun v1 => (bindT (whileT (fun b3 => (bindT (bindT (pureT b3) fun x5 => bindT (optT (lenS p_text)) fun y6 => optT (some (decide (x5 < y6)))) fun b12 => if b12 = true then (bindT (pureT (decide ((b3 - p_at) < 6) : Bool)) fun b11 => if b11 = true then (bindT (optT (chT p_text b3)) fun x9 => bindT (pureT ("abcdefghijklmnopqrstuvwxyz" : Str)) fun y10 => optT (some (subStr x9 y10))) else pureT false) else pureT false)) (fun b3 => (bindT (pureT (b3 + 1 : Int)) fun v13 => pureT v13)) v1) fun v2 => (bindT (bindT (pureT (eqB v2 p_at : Bool)) fun b15 => if b15 = true then failT else (pureT ())) fun v14 => (bindT (bindT (optT (slT p_text (some p_at) (some v2))) fun x18 => bindT (bindT (pureT v2) fun x16 => bindT (pureT ()) fun y17 => pureT (x16, y17)) fun y19 => pureT (x18, y19)) fun a20 => pureT (a20.1, a20.2.1)))))
theorem S_read_name (p_text : Str) (p_at : Int) {g g' : Dk} {r : Str × Int} (h : T_read_name p_text p_at g = some (r, g')) : F_read_name [D.str p_text, D.int p_at] g = some (eP D.str D.int r, g') := by
  have hb : JB [some (.sh (D.str p_text)), some (.sh (D.int p_at)), none] B_read_name (T_read_name p_text p_at) (eP D.str D.int) := by
    unfold T_read_name B_read_name
    exact (sb_seq (sn_set (Γ1 := [some (.sh (D.str p_text)), some (.sh (D.int p_at)), none]) (ea := D.int) (Γ' := fun v1 => [some (.sh (D.str p_text)), some (.sh (D.int p_at)), some (.sh (D.int v1))]) (en_var D.int p_at rfl) (lt_b rfl) (fun _ => rfl)) (fun v1 => (sb_seq (sn_while (Γb := fun b3 => [some (.sh (D.str p_text)), some (.sh (D.int p_at)), some (.sh (D.int b3))]) (b0 := v1) (.s (.s (.s .nil))) (fun b3 => (eb_and (eb_test (en_op (f := (fun x5 y6 => some (decide (x5 < y6)))) (ec := D.bl) (EN.pk (en_var D.int b3 rfl)) (EN.pk (en_unP (f := lenS) (ec := D.int) (EN.pk (en_var D.str p_text rfl)) o_lenS)) (fun _ _ _ h => by cases h; exact (o_lt _ _)))) (eb_and (eb_test (en_opV (z := decide ((b3 - p_at) < 6)) (ec := D.bl) (EN.pk (en_opV (z := b3 - p_at) (ec := D.int) (EN.pk (en_var D.int b3 rfl)) (EN.pk (en_var D.int p_at rfl)) (o_sub _ _))) (EN.pk (en_c D.int 6 rfl)) (o_lt _ _))) (eb_test (en_op (f := (fun x9 y10 => some (subStr x9 y10))) (ec := D.bl) (EN.pk (en_opP (f := chT) (ec := D.str) (EN.pk (en_var D.str p_text rfl)) (EN.pk (en_var D.int b3 rfl)) o_ixS)) (EN.pk (en_c D.str ("abcdefghijklmnopqrstuvwxyz") rfl)) (fun _ _ _ h => by cases h; exact (o_inS _ _))))))) (fun b3 => (sn_wk (f := fun v13 => v13) (sn_set (Γ1 := [some (.sh (D.str p_text)), some (.sh (D.int p_at)), some (.sh (D.int b3))]) (ea := D.int) (Γ' := fun v13 => [some (.sh (D.str p_text)), some (.sh (D.int p_at)), some (.sh (D.int v13))]) (en_opV (z := b3 + 1) (ec := D.int) (EN.pk (en_var D.int b3 rfl)) (EN.pk (en_c D.int 1 rfl)) (o_addI _ _)) (lt_b rfl) (fun _ => rfl)) (fun v13 => (.s (.s (.s .nil))))))) (fun v2 => (sb_seq (sn_if (Γb := fun (_ : Unit) => [some (.sh (D.str p_text)), some (.sh (D.int p_at)), some (.sh (D.int v2))]) (eb_test (en_opV (z := eqB v2 p_at) (ec := D.bl) (EN.pk (en_var D.int v2 rfl)) (EN.pk (en_var D.int p_at rfl)) (o_eq (e := D.int) _ _))) sn_never (sn_next (b := ()) (.s (.s (.s .nil))))) (fun v14 => (sb_ret (EN.tk (en_tup (f := fun (a20 : Str × Int × Unit) => (a20.1, a20.2.1)) (ec := eP D.str D.int) (ea_cons (EN.tk (show EN _ _ (optT (slT p_text (some p_at) (some v2))) _ _ _ from en_slS (EN.pk (en_var D.str p_text rfl)) (po_someV (en_var D.int p_at rfl)) (po_someV (en_var D.int v2 rfl)))) (ea_cons (EN.tk (en_var D.int v2 rfl)) ea_nil)) (fun _ => rfl) (fun _ => le_b rfl))))))))))
  exact fn_ok hb rfl rfl h
noncomputable def T_read_number (p_text : Str) (p_at : Int) : TM (Int × Int) :=
  (bindT (pureT p_at) fun v1 => (bindT (whileT (fun b3 => (bindT (bindT (pureT b3) fun x5 => bindT (optT (lenS p_text)) fun y6 => optT (some (decide (x5 < y6)))) fun b17 => if b17 = true then (bindT (pureT (decide ((b3 - p_at) < 4) : Bool)) fun b16 => if b16 = true then (bindT (bindT (optT (chT p_text b3)) fun x9 => bindT (pureT ("0123456789" : Str)) fun y10 => optT (some (subStr x9 y10))) fun b15 => if b15 = true then (bindT (optT (chT p_text p_at)) fun x13 => bindT (pureT ("0" : Str)) fun y14 => optT (some (!eqB x13 y14))) else pureT false) else pureT false) else pureT false)) (fun b3 => (bindT (pureT (b3 + 1 : Int)) fun v18 => pureT v18)) v1) fun v2 => (bindT (bindT (pureT (eqB v2 p_at : Bool)) fun b20 => if b20 = true then failT else (pureT ())) fun v19 => (bindT (bindT (bindT (optT (slT p_text (some p_at) (some v2))) fun x21 => optT (intT x21)) fun x24 => bindT (bindT (pureT v2) fun x22 => bindT (pureT ()) fun y23 => pureT (x22, y23)) fun y25 => pureT (x24, y25)) fun a26 => pureT (a26.1, a26.2.1)))))
theorem S_read_number (p_text : Str) (p_at : Int) {g g' : Dk} {r : Int × Int} (h : T_read_number p_text p_at g = some (r, g')) : F_read_number [D.str p_text, D.int p_at] g = some (eP D.int D.int r, g') := by
  have hb : JB [some (.sh (D.str p_text)), some (.sh (D.int p_at)), none] B_read_number (T_read_number p_text p_at) (eP D.int D.int) := by
    unfold T_read_number B_read_number
    exact (sb_seq (sn_set (Γ1 := [some (.sh (D.str p_text)), some (.sh (D.int p_at)), none]) (ea := D.int) (Γ' := fun v1 => [some (.sh (D.str p_text)), some (.sh (D.int p_at)), some (.sh (D.int v1))]) (en_var D.int p_at rfl) (lt_b rfl) (fun _ => rfl)) (fun v1 => (sb_seq (sn_while (Γb := fun b3 => [some (.sh (D.str p_text)), some (.sh (D.int p_at)), some (.sh (D.int b3))]) (b0 := v1) (.s (.s (.s .nil))) (fun b3 => (eb_and (eb_test (en_op (f := (fun x5 y6 => some (decide (x5 < y6)))) (ec := D.bl) (EN.pk (en_var D.int b3 rfl)) (EN.pk (en_unP (f := lenS) (ec := D.int) (EN.pk (en_var D.str p_text rfl)) o_lenS)) (fun _ _ _ h => by cases h; exact (o_lt _ _)))) (eb_and (eb_test (en_opV (z := decide ((b3 - p_at) < 4)) (ec := D.bl) (EN.pk (en_opV (z := b3 - p_at) (ec := D.int) (EN.pk (en_var D.int b3 rfl)) (EN.pk (en_var D.int p_at rfl)) (o_sub _ _))) (EN.pk (en_c D.int 4 rfl)) (o_lt _ _))) (eb_and (eb_test (en_op (f := (fun x9 y10 => some (subStr x9 y10))) (ec := D.bl) (EN.pk (en_opP (f := chT) (ec := D.str) (EN.pk (en_var D.str p_text rfl)) (EN.pk (en_var D.int b3 rfl)) o_ixS)) (EN.pk (en_c D.str ("0123456789") rfl)) (fun _ _ _ h => by cases h; exact (o_inS _ _)))) (eb_test (en_op (f := (fun x13 y14 => some (!eqB x13 y14))) (ec := D.bl) (EN.pk (en_opP (f := chT) (ec := D.str) (EN.pk (en_var D.str p_text rfl)) (EN.pk (en_var D.int p_at rfl)) o_ixS)) (EN.pk (en_c D.str "0" rfl)) (fun _ _ _ h => by cases h; exact (o_ne (e := D.str) _ _)))))))) (fun b3 => (sn_wk (f := fun v18 => v18) (sn_set (Γ1 := [some (.sh (D.str p_text)), some (.sh (D.int p_at)), some (.sh (D.int b3))]) (ea := D.int) (Γ' := fun v18 => [some (.sh (D.str p_text)), some (.sh (D.int p_at)), some (.sh (D.int v18))]) (en_opV (z := b3 + 1) (ec := D.int) (EN.pk (en_var D.int b3 rfl)) (EN.pk (en_c D.int 1 rfl)) (o_addI _ _)) (lt_b rfl) (fun _ => rfl)) (fun v18 => (.s (.s (.s .nil))))))) (fun v2 => (sb_seq (sn_if (Γb := fun (_ : Unit) => [some (.sh (D.str p_text)), some (.sh (D.int p_at)), some (.sh (D.int v2))]) (eb_test (en_opV (z := eqB v2 p_at) (ec := D.bl) (EN.pk (en_var D.int v2 rfl)) (EN.pk (en_var D.int p_at rfl)) (o_eq (e := D.int) _ _))) sn_never (sn_next (b := ()) (.s (.s (.s .nil))))) (fun v19 => (sb_ret (EN.tk (en_tup (f := fun (a26 : Int × Int × Unit) => (a26.1, a26.2.1)) (ec := eP D.int D.int) (ea_cons (EN.tk (en_un (f := intT) (ec := D.int) (EN.pk (show EN _ _ (optT (slT p_text (some p_at) (some v2))) _ _ _ from en_slS (EN.pk (en_var D.str p_text rfl)) (po_someV (en_var D.int p_at rfl)) (po_someV (en_var D.int v2 rfl)))) o_intS)) (ea_cons (EN.tk (en_var D.int v2 rfl)) ea_nil)) (fun _ => rfl) (fun _ => le_b rfl))))))))))
  exact fn_ok hb rfl rfl h
noncomputable def T_word_at (p_text : Str) (p_at : Int) : TM (Str × Int) :=
  (bindF (forF (fun i3 b2 => (bindT (bindT (optT (slT p_text (some p_at) (some (p_at + 1)))) fun x6 => bindT (optT (chT i3 0)) fun y7 => optT (some (eqB x6 y7))) fun b8 => if b8 = true then (bindT (bindT (bindT (optT (slT i3 none (some (-1)))) fun x11 => bindT (bindT (callT F_passed D.int [D.str p_text, D.int p_at, D.str i3]) fun x9 => bindT (pureT ()) fun y10 => pureT (x9, y10)) fun y12 => pureT (x11, y12)) fun a13 => pureT (a13.1, a13.2.1)) fun r14 => pureT (.rt r14)) else (pureT (.nx ())))) (["all ", "thin(", "join(", "either(", "meet("] : List Str) ()) fun v1 => failT)
theorem S_word_at (p_text : Str) (p_at : Int) {g g' : Dk} {r : Str × Int} (h : T_word_at p_text p_at g = some (r, g')) : F_word_at [D.str p_text, D.int p_at] g = some (eP D.str D.int r, g') := by
  have hb : JB [some (.sh (D.str p_text)), some (.sh (D.int p_at)), none] B_word_at (T_word_at p_text p_at) (eP D.str D.int) := by
    unfold T_word_at B_word_at
    exact (sb_seqF (sf_forV (Γb := fun b2 => [some (.sh (D.str p_text)), some (.sh (D.int p_at)), none]) (Γab := fun i3 b2 => [some (.sh (D.str p_text)), some (.sh (D.int p_at)), some (.sh (D.str i3))]) (b0 := ()) (ea := D.str) (er := eP D.str D.int) (ei_seqT (ea := D.str) (EN.tk (en_tupV (z := ["all ", "thin(", "join(", "either(", "meet("]) (ec := eT D.str) (ea_consV (EN.tk (en_c D.str "all " rfl)) (ea_consV (EN.tk (en_c D.str "thin(" rfl)) (ea_consV (EN.tk (en_c D.str "join(" rfl)) (ea_consV (EN.tk (en_c D.str "either(" rfl)) (ea_consV (EN.tk (en_c D.str "meet(" rfl)) ea_nil))))) rfl (le_b rfl)))) (.s (.s (.n .nil))) (fun i3 b2 => (as_nm (lt_b rfl) rfl)) (fun i3 b2 => (sf_if (eb_test (en_op (f := (fun x6 y7 => some (eqB x6 y7))) (ec := D.bl) (EN.pk (show EN _ _ (optT (slT p_text (some p_at) (some (p_at + 1)))) _ _ _ from en_slS (EN.pk (en_var D.str p_text rfl)) (po_someV (en_var D.int p_at rfl)) (po_someV (en_opV (z := p_at + 1) (ec := D.int) (EN.pk (en_var D.int p_at rfl)) (EN.pk (en_c D.int 1 rfl)) (o_add _ _))))) (EN.pk (en_opP (f := chT) (ec := D.str) (EN.pk (en_var D.str i3 rfl)) (EN.pk (en_c D.int 0 rfl)) o_ixS)) (fun _ _ _ h => by cases h; exact (o_eq (e := D.str) _ _)))) (sf_sb (sb_ret (EN.tk (en_tup (f := fun (a13 : Str × Int × Unit) => (a13.1, a13.2.1)) (ec := eP D.str D.int) (ea_cons (EN.tk (show EN _ _ (optT (slT i3 none (some (-1)))) _ _ _ from en_slS (EN.pk (en_var D.str i3 rfl)) po_noneT (po_someV (en_unV (z := -1) (ec := D.int) (EN.pk (en_c D.int 1 rfl)) (o_neg _))))) (ea_cons (EN.tk (en_callV (ea_consV (EN.tk (en_var D.str p_text rfl)) (ea_consV (EN.tk (en_var D.int p_at rfl)) (ea_consV (EN.tk (en_var D.str i3 rfl)) ea_nil))) rfl)) ea_nil)) (fun _ => rfl) (fun _ => le_b rfl))))) (sf_sn0 (sn_next (b := ()) (.s (.s (.n .nil)))))))) (fun v1 => sb_never))
  exact fn_ok hb rfl rfl h
noncomputable def T_read_some (k_ : Nat) (p_text : Str) (p_at : Int) : TM (Plan × Int) :=
  (bindT (callT F_word_at (eP D.str D.int) [D.str p_text, D.int p_at]) fun v1 => (bindT (pureT (eqB v1.1 ("all") : Bool)) fun b2 => if b2 = true then (bindT (callT F_read_name (eP D.str D.int) [D.str p_text, D.int v1.2]) fun v3 => (pureT ((Plan.all v3.1, v3.2) : Plan × Int))) else (bindT (callT (F_read_some k_) (eP planE D.int) [D.str p_text, D.int v1.2]) fun v4 => (bindT (callT F_passed D.int [D.str p_text, D.int v4.2, D.str (", ")]) fun v5 => (bindT (pureT (eqB v1.1 ("thin") : Bool)) fun b6 => if b6 = true then (bindT (callT F_read_name (eP D.str D.int) [D.str p_text, D.int v5]) fun v7 => (bindT (bindT (bindT (pureT p_text) fun x11 => bindT (bindT (callT F_passed D.int [D.str p_text, D.int v7.2, D.str (", ")]) fun x9 => bindT (pureT ()) fun y10 => pureT (x9, y10)) fun y12 => pureT (x11, y12)) fun a13 => callT F_read_number (eP D.int D.int) [D.str a13.1, D.int a13.2.1]) fun v8 => (bindT (bindT (bindT (pureT p_text) fun x17 => bindT (bindT (callT F_passed D.int [D.str p_text, D.int v8.2, D.str ("/")]) fun x15 => bindT (pureT ()) fun y16 => pureT (x15, y16)) fun y18 => pureT (x17, y18)) fun a19 => callT F_read_number (eP D.int D.int) [D.str a19.1, D.int a19.2.1]) fun v14 => (bindT (bindT (bindT (bindT (pureT ("thin" : Str)) fun x27 => bindT (bindT (pureT v4.1) fun x25 => bindT (bindT (pureT v7.1) fun x23 => bindT (bindT (optT (unE rateE (eP D.int D.int (v8.1, v14.1)))) fun x21 => bindT (pureT ()) fun y22 => pureT (x21, y22)) fun y24 => pureT (x23, y24)) fun y26 => pureT (x25, y26)) fun y28 => pureT (x27, y28)) fun a29 => optT (pw "thin" a29.1 (Plan.thin a29.2.1 a29.2.2.1 a29.2.2.2.1))) fun x32 => bindT (bindT (callT F_passed D.int [D.str p_text, D.int v14.2, D.str (")")]) fun x30 => bindT (pureT ()) fun y31 => pureT (x30, y31)) fun y33 => pureT (x32, y33)) fun a34 => pureT (a34.1, a34.2.1))))) else (bindT (callT (F_read_some k_) (eP planE D.int) [D.str p_text, D.int v5]) fun v35 => (bindT (bindT (bindT (pureT (v1.1, (v4.1, (v35.1, ())))) fun a36 => optT (pw2 a36.1 a36.2.1 a36.2.2.1)) fun x39 => bindT (bindT (callT F_passed D.int [D.str p_text, D.int v35.2, D.str (")")]) fun x37 => bindT (pureT ()) fun y38 => pureT (x37, y38)) fun y40 => pureT (x39, y40)) fun a41 => pureT (a41.1, a41.2.1))))))))
theorem S_read_some (k_ : Nat) (p_text : Str) (p_at : Int) {g g' : Dk} {r : Plan × Int} (h : T_read_some k_ p_text p_at g = some (r, g')) : F_read_some (k_ + 1) [D.str p_text, D.int p_at] g = some (eP planE D.int r, g') := by
  have hb : JB [some (.sh (D.str p_text)), some (.sh (D.int p_at)), none, none, none, none, none, none, none] (B_read_some (F_read_some k_)) (T_read_some k_ p_text p_at) (eP planE D.int) := by
    unfold T_read_some B_read_some
    exact (sb_seq (jn_unp (Γ1 := [some (.sh (D.str p_text)), some (.sh (D.int p_at)), none, none, none, none, none, none, none]) (ea := eP D.str D.int) (Γ' := fun v1 => [some (.sh (D.str p_text)), some (.sh (D.int v1.2)), some (.sh (D.str v1.1)), none, none, none, none, none, none]) (EN.tk (en_callV (ea_consV (EN.tk (en_var D.str p_text rfl)) (ea_consV (EN.tk (en_var D.int p_at rfl)) ea_nil)) rfl)) (fun v1 => (as_tp rfl (as_cons (as_nm (lt_b rfl) rfl) (as_cons (as_nm (lt_b rfl) rfl) as_nil))))) (fun v1 => (sb_ifret (eb_test (en_opV (z := eqB v1.1 ("all")) (ec := D.bl) (EN.pk (en_var D.str v1.1 rfl)) (EN.pk (en_c D.str "all" rfl)) (o_eq (e := D.str) _ _))) (sb_seq (jn_unp (Γ1 := [some (.sh (D.str p_text)), some (.sh (D.int v1.2)), some (.sh (D.str v1.1)), none, none, none, none, none, none]) (ea := eP D.str D.int) (Γ' := fun v3 => [some (.sh (D.str p_text)), some (.sh (D.int v3.2)), some (.sh (D.str v1.1)), none, none, some (.sh (D.str v3.1)), none, none, none]) (EN.tk (en_callV (ea_consV (EN.tk (en_var D.str p_text rfl)) (ea_consV (EN.tk (en_var D.int v1.2 rfl)) ea_nil)) rfl)) (fun v3 => (as_tp rfl (as_cons (as_nm (lt_b rfl) rfl) (as_cons (as_nm (lt_b rfl) rfl) as_nil))))) (fun v3 => (sb_ret (EN.tk (en_tupV (z := (Plan.all v3.1, v3.2)) (ec := eP planE D.int) (ea_consV (EN.tk (en_tupV (z := Plan.all v3.1) (ec := planE) (ea_consV (EN.tk (en_c D.str "all" rfl)) (ea_consV (EN.tk (en_var D.str v3.1 rfl)) ea_nil)) rfl (le_b rfl))) (ea_consV (EN.tk (en_var D.int v3.2 rfl)) ea_nil)) rfl (le_b rfl)))))) (sb_seq (jn_unp (Γ1 := [some (.sh (D.str p_text)), some (.sh (D.int v1.2)), some (.sh (D.str v1.1)), none, none, none, none, none, none]) (ea := eP planE D.int) (Γ' := fun v4 => [some (.sh (D.str p_text)), some (.sh (D.int v4.2)), some (.sh (D.str v1.1)), some (.sh (planE v4.1)), none, none, none, none, none]) (EN.tk (en_callV (ea_consV (EN.tk (en_var D.str p_text rfl)) (ea_consV (EN.tk (en_var D.int v1.2 rfl)) ea_nil)) rfl)) (fun v4 => (as_tp rfl (as_cons (as_nm (lt_b rfl) rfl) (as_cons (as_nm (lt_b rfl) rfl) as_nil))))) (fun v4 => (sb_seq (sn_set (Γ1 := [some (.sh (D.str p_text)), some (.sh (D.int v4.2)), some (.sh (D.str v1.1)), some (.sh (planE v4.1)), none, none, none, none, none]) (ea := D.int) (Γ' := fun v5 => [some (.sh (D.str p_text)), some (.sh (D.int v5)), some (.sh (D.str v1.1)), some (.sh (planE v4.1)), none, none, none, none, none]) (en_callV (ea_consV (EN.tk (en_var D.str p_text rfl)) (ea_consV (EN.tk (en_var D.int v4.2 rfl)) (ea_consV (EN.tk (en_c D.str (", ") rfl)) ea_nil))) rfl) (lt_b rfl) (fun _ => rfl)) (fun v5 => (sb_ifret (eb_test (en_opV (z := eqB v1.1 ("thin")) (ec := D.bl) (EN.pk (en_var D.str v1.1 rfl)) (EN.pk (en_c D.str "thin" rfl)) (o_eq (e := D.str) _ _))) (sb_seq (jn_unp (Γ1 := [some (.sh (D.str p_text)), some (.sh (D.int v5)), some (.sh (D.str v1.1)), some (.sh (planE v4.1)), none, none, none, none, none]) (ea := eP D.str D.int) (Γ' := fun v7 => [some (.sh (D.str p_text)), some (.sh (D.int v7.2)), some (.sh (D.str v1.1)), some (.sh (planE v4.1)), none, none, some (.sh (D.str v7.1)), none, none]) (EN.tk (en_callV (ea_consV (EN.tk (en_var D.str p_text rfl)) (ea_consV (EN.tk (en_var D.int v5 rfl)) ea_nil)) rfl)) (fun v7 => (as_tp rfl (as_cons (as_nm (lt_b rfl) rfl) (as_cons (as_nm (lt_b rfl) rfl) as_nil))))) (fun v7 => (sb_seq (jn_unp (Γ1 := [some (.sh (D.str p_text)), some (.sh (D.int v7.2)), some (.sh (D.str v1.1)), some (.sh (planE v4.1)), none, none, some (.sh (D.str v7.1)), none, none]) (ea := eP D.int D.int) (Γ' := fun v8 => [some (.sh (D.str p_text)), some (.sh (D.int v8.2)), some (.sh (D.str v1.1)), some (.sh (planE v4.1)), none, none, some (.sh (D.str v7.1)), some (.sh (D.int v8.1)), none]) (EN.tk (en_call (ea_cons (EN.tk (en_var D.str p_text rfl)) (ea_cons (EN.tk (en_callV (ea_consV (EN.tk (en_var D.str p_text rfl)) (ea_consV (EN.tk (en_var D.int v7.2 rfl)) (ea_consV (EN.tk (en_c D.str (", ") rfl)) ea_nil))) rfl)) ea_nil)))) (fun v8 => (as_tp rfl (as_cons (as_nm (lt_b rfl) rfl) (as_cons (as_nm (lt_b rfl) rfl) as_nil))))) (fun v8 => (sb_seq (jn_unp (Γ1 := [some (.sh (D.str p_text)), some (.sh (D.int v8.2)), some (.sh (D.str v1.1)), some (.sh (planE v4.1)), none, none, some (.sh (D.str v7.1)), some (.sh (D.int v8.1)), none]) (ea := eP D.int D.int) (Γ' := fun v14 => [some (.sh (D.str p_text)), some (.sh (D.int v14.2)), some (.sh (D.str v1.1)), some (.sh (planE v4.1)), none, none, some (.sh (D.str v7.1)), some (.sh (D.int v8.1)), some (.sh (D.int v14.1))]) (EN.tk (en_call (ea_cons (EN.tk (en_var D.str p_text rfl)) (ea_cons (EN.tk (en_callV (ea_consV (EN.tk (en_var D.str p_text rfl)) (ea_consV (EN.tk (en_var D.int v8.2 rfl)) (ea_consV (EN.tk (en_c D.str "/" rfl)) ea_nil))) rfl)) ea_nil)))) (fun v14 => (as_tp rfl (as_cons (as_nm (lt_b rfl) rfl) (as_cons (as_nm (lt_b rfl) rfl) as_nil))))) (fun v14 => (sb_ret (EN.tk (en_tup (f := fun (a34 : Plan × Int × Unit) => (a34.1, a34.2.1)) (ec := eP planE D.int) (ea_cons (EN.tk (en_tupO (f := fun (a29 : Str × Plan × Str × Rt × Unit) => pw "thin" a29.1 (Plan.thin a29.2.1 a29.2.2.1 a29.2.2.2.1)) (ec := planE) (ea_cons (EN.tk (en_c D.str "thin" rfl)) (ea_cons (EN.tk (en_var planE v4.1 rfl)) (ea_cons (EN.tk (en_var D.str v7.1 rfl)) (ea_cons (EN.tk (en_castV (ec := rateE) (en_tupV (z := (v8.1, v14.1)) (ec := eP D.int D.int) (ea_consV (EN.tk (en_var D.int v8.1 rfl)) (ea_consV (EN.tk (en_var D.int v14.1 rfl)) ea_nil)) rfl (le_b rfl)))) ea_nil)))) (fun _ _ h => by obtain ⟨h1, h2⟩ := pw_some h; rw [← h2]; show D.tup (D.str _ :: _) = _; rw [h1]; rfl) (fun _ => le_b rfl))) (ea_cons (EN.tk (en_callV (ea_consV (EN.tk (en_var D.str p_text rfl)) (ea_consV (EN.tk (en_var D.int v14.2 rfl)) (ea_consV (EN.tk (en_c D.str ")" rfl)) ea_nil))) rfl)) ea_nil)) (fun _ => rfl) (fun _ => le_b rfl)))))))))) (sb_seq (jn_unp (Γ1 := [some (.sh (D.str p_text)), some (.sh (D.int v5)), some (.sh (D.str v1.1)), some (.sh (planE v4.1)), none, none, none, none, none]) (ea := eP planE D.int) (Γ' := fun v35 => [some (.sh (D.str p_text)), some (.sh (D.int v35.2)), some (.sh (D.str v1.1)), some (.sh (planE v4.1)), some (.sh (planE v35.1)), none, none, none, none]) (EN.tk (en_callV (ea_consV (EN.tk (en_var D.str p_text rfl)) (ea_consV (EN.tk (en_var D.int v5 rfl)) ea_nil)) rfl)) (fun v35 => (as_tp rfl (as_cons (as_nm (lt_b rfl) rfl) (as_cons (as_nm (lt_b rfl) rfl) as_nil))))) (fun v35 => (sb_ret (EN.tk (en_tup (f := fun (a41 : Plan × Int × Unit) => (a41.1, a41.2.1)) (ec := eP planE D.int) (ea_cons (EN.tk (en_tupO (f := fun (a36 : Str × Plan × Plan × Unit) => pw2 a36.1 a36.2.1 a36.2.2.1) (ec := planE) (ea_consV (EN.tk (en_var D.str v1.1 rfl)) (ea_consV (EN.tk (en_var planE v4.1 rfl)) (ea_consV (EN.tk (en_var planE v35.1 rfl)) ea_nil))) (fun _ _ h => pw2_ok h) (fun _ => le_b rfl))) (ea_cons (EN.tk (en_callV (ea_consV (EN.tk (en_var D.str p_text rfl)) (ea_consV (EN.tk (en_var D.int v35.2 rfl)) (ea_consV (EN.tk (en_c D.str ")" rfl)) ea_nil))) rfl)) ea_nil)) (fun _ => rfl) (fun _ => le_b rfl))))))))))))))
  show mFn 2 9 (B_read_some (F_read_some k_)) _ _ = _
  exact fn_ok hb rfl rfl h
noncomputable def T_looked_over (k_ : Nat) (p_scheme : List (Str × Str) × List (Str × List Str)) (p_plan : Plan) (p_number : Int) : TM ((List Str) × Int) :=
  (bindT (pureT (eqB (pTag p_plan) ("all") : Bool)) fun b1 => if b1 = true then (bindT (bindT (bindT (optT (pStr p_plan 1)) fun x5 => bindT (callT F_tables_in (eT D.str) [schP p_scheme]) fun y6 => optT (some (!inB x5 y6))) fun b7 => if b7 = true then failT else (pureT ())) fun v2 => (bindT (bindT (bindT (bindT (optT (pStr p_plan 1)) fun x10 => bindT (pureT ()) fun y11 => pureT (x10, y11)) fun a12 => pureT [a12.1]) fun x15 => bindT (bindT (pureT (p_number + 1 : Int)) fun x13 => bindT (pureT ()) fun y14 => pureT (x13, y14)) fun y16 => pureT (x15, y16)) fun a17 => pureT (a17.1, a17.2.1))) else (bindT (bindT (bindT (pureT p_scheme) fun x25 => bindT (bindT (optT (pSub p_plan 1)) fun x23 => bindT (bindT (pureT (p_number + 1 : Int)) fun x21 => bindT (pureT ()) fun y22 => pureT (x21, y22)) fun y24 => pureT (x23, y24)) fun y26 => pureT (x25, y26)) fun a27 => callT (F_looked_over k_) (eP (eT D.str) D.int) [schP a27.1, planE a27.2.1, D.int a27.2.2.1]) fun v18 => (bindT (pureT (eqB (pTag p_plan) ("thin") : Bool)) fun b28 => if b28 = true then (bindT (bindT (bindT (bindT (optT (pStr p_plan 2)) fun x32 => bindT (callT F_columns_of (eT D.str) [schP p_scheme, eT D.str v18.1]) fun y33 => optT (some (!inB x32 y33))) fun b40 => if b40 = true then pureT true else (bindT (bindT (bindT (optT (pRate p_plan 3)) fun x36 => bindT (pureT ()) fun y37 => pureT (x36, y37)) fun a38 => callT F_is_rate D.bl [rateE a38.1]) fun b39 => pureT (!b39))) fun b41 => if b41 = true then failT else (pureT ())) fun v29 => (pureT ((v18.1, v18.2) : (List Str) × Int))) else (bindT (bindT (bindT (pureT p_scheme) fun x49 => bindT (bindT (optT (pSub p_plan 2)) fun x47 => bindT (bindT (pureT v18.2) fun x45 => bindT (pureT ()) fun y46 => pureT (x45, y46)) fun y48 => pureT (x47, y48)) fun y50 => pureT (x49, y50)) fun a51 => callT (F_looked_over k_) (eP (eT D.str) D.int) [schP a51.1, planE a51.2.1, D.int a51.2.2.1]) fun v42 => (bindT (bindT (pureT ((!eqB (pTag p_plan) ("join")) && (!eqB v18.1 v42.1) : Bool)) fun b53 => if b53 = true then failT else (pureT ())) fun v52 => (bindT (bindT (callT F_united (eT D.str) [eT D.str v18.1, eT D.str v42.1]) fun x56 => bindT (bindT (pureT v42.2) fun x54 => bindT (pureT ()) fun y55 => pureT (x54, y55)) fun y57 => pureT (x56, y57)) fun a58 => pureT (a58.1, a58.2.1)))))))
theorem S_looked_over (k_ : Nat) (p_scheme : List (Str × Str) × List (Str × List Str)) (p_plan : Plan) (p_number : Int) {g g' : Dk} {r : (List Str) × Int} (h : T_looked_over k_ p_scheme p_plan p_number g = some (r, g')) : F_looked_over (k_ + 1) [schP p_scheme, planE p_plan, D.int p_number] g = some (eP (eT D.str) D.int r, g') := by
  have hb : JB [some (.sh (schP p_scheme)), some (.sh (planE p_plan)), some (.sh (D.int p_number)), none, none, none] (B_looked_over (F_looked_over k_)) (T_looked_over k_ p_scheme p_plan p_number) (eP (eT D.str) D.int) := by
    unfold T_looked_over B_looked_over
    exact (sb_ifret (eb_test (en_opV (z := eqB (pTag p_plan) ("all")) (ec := D.bl) (EN.pk (en_opV (z := pTag p_plan) (ec := D.str) (EN.pk (en_var planE p_plan rfl)) (EN.pk (en_c D.int 0 rfl)) (o_pTag _))) (EN.pk (en_c D.str "all" rfl)) (o_eq (e := D.str) _ _))) (sb_seq (sn_if (Γb := fun (_ : Unit) => [some (.sh (schP p_scheme)), some (.sh (planE p_plan)), some (.sh (D.int p_number)), none, none, none]) (eb_test (en_op (f := (fun x5 y6 => some (!inB x5 y6))) (ec := D.bl) (EN.pk (en_opP (f := pStr) (ec := D.str) (EN.pk (en_var planE p_plan rfl)) (EN.pk (en_c D.int 1 rfl)) o_pStr)) (EN.pk (en_callV (ea_consV (EN.tk (en_var schP p_scheme rfl)) ea_nil) rfl)) (fun _ _ _ h => by cases h; exact (o_ninT (e := D.str) _ _)))) sn_never (sn_next (b := ()) (.s (.s (.s (.n (.n (.n .nil)))))))) (fun v2 => (sb_ret (EN.tk (en_tup (f := fun (a17 : (List Str) × Int × Unit) => (a17.1, a17.2.1)) (ec := eP (eT D.str) D.int) (ea_cons (EN.tk (en_tup (f := fun (a12 : Str × Unit) => [a12.1]) (ec := eT D.str) (ea_cons (EN.tk (en_opP (f := pStr) (ec := D.str) (EN.pk (en_var planE p_plan rfl)) (EN.pk (en_c D.int 1 rfl)) o_pStr)) ea_nil) (fun _ => rfl) (fun _ => le_b rfl))) (ea_cons (EN.tk (en_opV (z := p_number + 1) (ec := D.int) (EN.pk (en_var D.int p_number rfl)) (EN.pk (en_c D.int 1 rfl)) (o_add _ _))) ea_nil)) (fun _ => rfl) (fun _ => le_b rfl)))))) (sb_seq (jn_unp (Γ1 := [some (.sh (schP p_scheme)), some (.sh (planE p_plan)), some (.sh (D.int p_number)), none, none, none]) (ea := eP (eT D.str) D.int) (Γ' := fun v18 => [some (.sh (schP p_scheme)), some (.sh (planE p_plan)), some (.sh (D.int p_number)), some (.sh (eT D.str v18.1)), some (.sh (D.int v18.2)), none]) (EN.tk (en_call (ea_cons (EN.tk (en_var schP p_scheme rfl)) (ea_cons (EN.tk (en_opP (f := pSub) (ec := planE) (EN.pk (en_var planE p_plan rfl)) (EN.pk (en_c D.int 1 rfl)) o_pSub)) (ea_cons (EN.tk (en_opV (z := p_number + 1) (ec := D.int) (EN.pk (en_var D.int p_number rfl)) (EN.pk (en_c D.int 1 rfl)) (o_add _ _))) ea_nil))))) (fun v18 => (as_tp rfl (as_cons (as_nm (lt_b rfl) rfl) (as_cons (as_nm (lt_b rfl) rfl) as_nil))))) (fun v18 => (sb_ifret (eb_test (en_opV (z := eqB (pTag p_plan) ("thin")) (ec := D.bl) (EN.pk (en_opV (z := pTag p_plan) (ec := D.str) (EN.pk (en_var planE p_plan rfl)) (EN.pk (en_c D.int 0 rfl)) (o_pTag _))) (EN.pk (en_c D.str "thin" rfl)) (o_eq (e := D.str) _ _))) (sb_seq (sn_if (Γb := fun (_ : Unit) => [some (.sh (schP p_scheme)), some (.sh (planE p_plan)), some (.sh (D.int p_number)), some (.sh (eT D.str v18.1)), some (.sh (D.int v18.2)), none]) (eb_or (eb_test (en_op (f := (fun x32 y33 => some (!inB x32 y33))) (ec := D.bl) (EN.pk (en_opP (f := pStr) (ec := D.str) (EN.pk (en_var planE p_plan rfl)) (EN.pk (en_c D.int 2 rfl)) o_pStr)) (EN.pk (en_callV (ea_consV (EN.tk (en_var schP p_scheme rfl)) (ea_consV (EN.tk (en_var (eT D.str) v18.1 rfl)) ea_nil)) rfl)) (fun _ _ _ h => by cases h; exact (o_ninT (e := D.str) _ _)))) (eb_not (eb_test (en_call (ea_cons (EN.tk (en_opP (f := pRate) (ec := rateE) (EN.pk (en_var planE p_plan rfl)) (EN.pk (en_c D.int 3 rfl)) o_pRate)) ea_nil))))) sn_never (sn_next (b := ()) (.s (.s (.s (.s (.s (.n .nil)))))))) (fun v29 => (sb_ret (EN.tk (en_tupV (z := (v18.1, v18.2)) (ec := eP (eT D.str) D.int) (ea_consV (EN.tk (en_var (eT D.str) v18.1 rfl)) (ea_consV (EN.tk (en_var D.int v18.2 rfl)) ea_nil)) rfl (le_b rfl)))))) (sb_seq (jn_unp (Γ1 := [some (.sh (schP p_scheme)), some (.sh (planE p_plan)), some (.sh (D.int p_number)), some (.sh (eT D.str v18.1)), some (.sh (D.int v18.2)), none]) (ea := eP (eT D.str) D.int) (Γ' := fun v42 => [some (.sh (schP p_scheme)), some (.sh (planE p_plan)), some (.sh (D.int p_number)), some (.sh (eT D.str v18.1)), some (.sh (D.int v42.2)), some (.sh (eT D.str v42.1))]) (EN.tk (en_call (ea_cons (EN.tk (en_var schP p_scheme rfl)) (ea_cons (EN.tk (en_opP (f := pSub) (ec := planE) (EN.pk (en_var planE p_plan rfl)) (EN.pk (en_c D.int 2 rfl)) o_pSub)) (ea_cons (EN.tk (en_var D.int v18.2 rfl)) ea_nil))))) (fun v42 => (as_tp rfl (as_cons (as_nm (lt_b rfl) rfl) (as_cons (as_nm (lt_b rfl) rfl) as_nil))))) (fun v42 => (sb_seq (sn_if (Γb := fun (_ : Unit) => [some (.sh (schP p_scheme)), some (.sh (planE p_plan)), some (.sh (D.int p_number)), some (.sh (eT D.str v18.1)), some (.sh (D.int v42.2)), some (.sh (eT D.str v42.1))]) (eb_andV (eb_test (en_opV (z := !eqB (pTag p_plan) ("join")) (ec := D.bl) (EN.pk (en_opV (z := pTag p_plan) (ec := D.str) (EN.pk (en_var planE p_plan rfl)) (EN.pk (en_c D.int 0 rfl)) (o_pTag _))) (EN.pk (en_c D.str "join" rfl)) (o_ne (e := D.str) _ _))) (eb_test (en_opV (z := !eqB v18.1 v42.1) (ec := D.bl) (EN.pk (en_var (eT D.str) v18.1 rfl)) (EN.pk (en_var (eT D.str) v42.1 rfl)) (o_ne (e := (eT D.str)) _ _)))) sn_never (sn_next (b := ()) (.s (.s (.s (.s (.s (.s .nil)))))))) (fun v52 => (sb_ret (EN.tk (en_tup (f := fun (a58 : (List Str) × Int × Unit) => (a58.1, a58.2.1)) (ec := eP (eT D.str) D.int) (ea_cons (EN.tk (en_callV (ea_consV (EN.tk (en_var (eT D.str) v18.1 rfl)) (ea_consV (EN.tk (en_var (eT D.str) v42.1 rfl)) ea_nil)) rfl)) (ea_cons (EN.tk (en_var D.int v42.2 rfl)) ea_nil)) (fun _ => rfl) (fun _ => le_b rfl))))))))))))
  show mFn 3 6 (B_looked_over (F_looked_over k_)) _ _ = _
  exact fn_ok hb rfl rfl h
noncomputable def T_read_plan (p_scheme : List (Str × Str) × List (Str × List Str)) (p_text : Str) : TM Plan :=
  (bindT (callT (F_read_some fu_read_some) (eP planE D.int) [D.str p_text, D.int 0]) fun v1 => (bindT (bindT (bindT (pureT v1.2) fun x4 => bindT (optT (lenS p_text)) fun y5 => optT (some (decide (x4 < y5)))) fun b6 => if b6 = true then failT else (pureT ())) fun v2 => (bindT (bindT (callT (F_looked_over fu_looked_over) (eP (eT D.str) D.int) [schP p_scheme, planE v1.1, D.int 0]) fun x8 => optT (some (x8.2))) fun v7 => (bindT (bindT (pureT (decide (12 < v7) : Bool)) fun b10 => if b10 = true then failT else (pureT ())) fun v9 => (pureT v1.1)))))
theorem S_read_plan (p_scheme : List (Str × Str) × List (Str × List Str)) (p_text : Str) {g g' : Dk} {r : Plan} (h : T_read_plan p_scheme p_text g = some (r, g')) : F_read_plan [schP p_scheme, D.str p_text] g = some (planE r, g') := by
  have hb : JB [some (.sh (schP p_scheme)), some (.sh (D.str p_text)), none, none, none] B_read_plan (T_read_plan p_scheme p_text) planE := by
    unfold T_read_plan B_read_plan
    exact (sb_seq (jn_unp (Γ1 := [some (.sh (schP p_scheme)), some (.sh (D.str p_text)), none, none, none]) (ea := eP planE D.int) (Γ' := fun v1 => [some (.sh (schP p_scheme)), some (.sh (D.str p_text)), none, some (.sh (planE v1.1)), some (.sh (D.int v1.2))]) (EN.tk (en_callV (ea_consV (EN.tk (en_var D.str p_text rfl)) (ea_consV (EN.tk (en_c D.int 0 rfl)) ea_nil)) rfl)) (fun v1 => (as_tp rfl (as_cons (as_nm (lt_b rfl) rfl) (as_cons (as_nm (lt_b rfl) rfl) as_nil))))) (fun v1 => (sb_seq (sn_if (Γb := fun (_ : Unit) => [some (.sh (schP p_scheme)), some (.sh (D.str p_text)), none, some (.sh (planE v1.1)), some (.sh (D.int v1.2))]) (eb_test (en_op (f := (fun x4 y5 => some (decide (x4 < y5)))) (ec := D.bl) (EN.pk (en_var D.int v1.2 rfl)) (EN.pk (en_unP (f := lenS) (ec := D.int) (EN.pk (en_var D.str p_text rfl)) o_lenS)) (fun _ _ _ h => by cases h; exact (o_lt _ _)))) sn_never (sn_next (b := ()) (.s (.s (.n (.s (.s .nil))))))) (fun v2 => (sb_seq (sn_set (Γ1 := [some (.sh (schP p_scheme)), some (.sh (D.str p_text)), none, some (.sh (planE v1.1)), some (.sh (D.int v1.2))]) (ea := D.int) (Γ' := fun v7 => [some (.sh (schP p_scheme)), some (.sh (D.str p_text)), some (.sh (D.int v7)), some (.sh (planE v1.1)), some (.sh (D.int v1.2))]) (en_opR (f := (fun (x8 : (List Str) × Int) => some (x8.2))) (ec := D.int) (EN.pk (en_callV (ea_consV (EN.tk (en_var schP p_scheme rfl)) (ea_consV (EN.tk (en_var planE v1.1 rfl)) (ea_consV (EN.tk (en_c D.int 0 rfl)) ea_nil))) rfl)) (EN.pk (en_c D.int 1 rfl)) (fun _ _ h => by cases h; exact (ix21 _ _))) (lt_b rfl) (fun _ => rfl)) (fun v7 => (sb_seq (sn_if (Γb := fun (_ : Unit) => [some (.sh (schP p_scheme)), some (.sh (D.str p_text)), some (.sh (D.int v7)), some (.sh (planE v1.1)), some (.sh (D.int v1.2))]) (eb_test (en_opV (z := decide (12 < v7)) (ec := D.bl) (EN.pk (en_var D.int v7 rfl)) (EN.pk (en_c D.int 12 rfl)) (o_gt _ _))) sn_never (sn_next (b := ()) (.s (.s (.s (.s (.s .nil))))))) (fun v9 => (sb_ret (EN.tk (en_var planE v1.1 rfl)))))))))))
  exact fn_ok hb rfl rfl h
noncomputable def T__law_text (k_ : Nat) (p_law_design : Plan) : TM Str :=
  (bindT (pureT (eqB (pTag p_law_design) ("all") : Bool)) fun b1 => if b1 = true then (bindT (pureT ("all " : Str)) fun x4 => bindT (optT (pStr p_law_design 1)) fun y5 => optT (catS x4 y5)) else (bindT (pureT (eqB (pTag p_law_design) ("thin") : Bool)) fun b6 => if b6 = true then (bindT (bindT (bindT (bindT (bindT (optT (pRate p_law_design 3)) fun x10 => optT (some (((x10.1 : Nat) : Int)))) fun x11 => optT (strT x11)) fun x12 => bindT (pureT ("/" : Str)) fun y13 => optT (catS x12 y13)) fun x18 => bindT (bindT (bindT (optT (pRate p_law_design 3)) fun x16 => optT (some (((x16.2 : Nat) : Int)))) fun x17 => optT (strT x17)) fun y19 => optT (catS x18 y19)) fun v7 => (bindT (bindT (bindT (bindT (bindT (bindT (pureT ("thin(" : Str)) fun x25 => bindT (bindT (bindT (optT (pSub p_law_design 1)) fun x22 => bindT (pureT ()) fun y23 => pureT (x22, y23)) fun a24 => callT (F__law_text k_) D.str [planE a24.1]) fun y26 => optT (catS x25 y26)) fun x27 => bindT (pureT (", " : Str)) fun y28 => optT (catS x27 y28)) fun x31 => bindT (optT (pStr p_law_design 2)) fun y32 => optT (catS x31 y32)) fun x33 => bindT (pureT (", " : Str)) fun y34 => optT (catS x33 y34)) fun x35 => bindT (pureT v7) fun y36 => optT (catS x35 y36)) fun x37 => bindT (pureT (")" : Str)) fun y38 => optT (catS x37 y38))) else (bindT (bindT (bindT (bindT (optT (catS (pTag p_law_design) ("("))) fun x46 => bindT (bindT (bindT (optT (pSub p_law_design 1)) fun x43 => bindT (pureT ()) fun y44 => pureT (x43, y44)) fun a45 => callT (F__law_text k_) D.str [planE a45.1]) fun y47 => optT (catS x46 y47)) fun x48 => bindT (pureT (", " : Str)) fun y49 => optT (catS x48 y49)) fun x55 => bindT (bindT (bindT (optT (pSub p_law_design 2)) fun x52 => bindT (pureT ()) fun y53 => pureT (x52, y53)) fun a54 => callT (F__law_text k_) D.str [planE a54.1]) fun y56 => optT (catS x55 y56)) fun x57 => bindT (pureT (")" : Str)) fun y58 => optT (catS x57 y58))))
theorem S__law_text (k_ : Nat) (p_law_design : Plan) {g g' : Dk} {r : Str} (h : T__law_text k_ p_law_design g = some (r, g')) : F__law_text (k_ + 1) [planE p_law_design] g = some (D.str r, g') := by
  have hb : JB [some (.sh (planE p_law_design)), none] (B__law_text (F__law_text k_)) (T__law_text k_ p_law_design) D.str := by
    unfold T__law_text B__law_text
    exact (sb_ifret (eb_test (en_opV (z := eqB (pTag p_law_design) ("all")) (ec := D.bl) (EN.pk (en_opV (z := pTag p_law_design) (ec := D.str) (EN.pk (en_var planE p_law_design rfl)) (EN.pk (en_c D.int 0 rfl)) (o_pTag _))) (EN.pk (en_c D.str "all" rfl)) (o_eq (e := D.str) _ _))) (sb_ret (EN.tk (en_op (f := catS) (ec := D.str) (EN.pk (en_c D.str "all " rfl)) (EN.pk (en_opP (f := pStr) (ec := D.str) (EN.pk (en_var planE p_law_design rfl)) (EN.pk (en_c D.int 1 rfl)) o_pStr)) o_catS))) (sb_ifret (eb_test (en_opV (z := eqB (pTag p_law_design) ("thin")) (ec := D.bl) (EN.pk (en_opV (z := pTag p_law_design) (ec := D.str) (EN.pk (en_var planE p_law_design rfl)) (EN.pk (en_c D.int 0 rfl)) (o_pTag _))) (EN.pk (en_c D.str "thin" rfl)) (o_eq (e := D.str) _ _))) (sb_seq (sn_set (Γ1 := [some (.sh (planE p_law_design)), none]) (ea := D.str) (Γ' := fun v7 => [some (.sh (planE p_law_design)), some (.sh (D.str v7))]) (en_shr (EN.tk (en_op (f := catS) (ec := D.str) (EN.pk (en_op (f := catS) (ec := D.str) (EN.pk (en_un (f := strT) (ec := D.str) (EN.pk (en_opR (f := (fun (x10 : Rt) => some (((x10.1 : Nat) : Int)))) (ec := D.int) (EN.pk (en_opP (f := pRate) (ec := rateE) (EN.pk (en_var planE p_law_design rfl)) (EN.pk (en_c D.int 3 rfl)) o_pRate)) (EN.pk (en_c D.int 0 rfl)) (fun _ _ h => by cases h; exact (ix20 _ _)))) o_strI)) (EN.pk (en_c D.str "/" rfl)) o_catS)) (EN.pk (en_un (f := strT) (ec := D.str) (EN.pk (en_opR (f := (fun (x16 : Rt) => some (((x16.2 : Nat) : Int)))) (ec := D.int) (EN.pk (en_opP (f := pRate) (ec := rateE) (EN.pk (en_var planE p_law_design rfl)) (EN.pk (en_c D.int 3 rfl)) o_pRate)) (EN.pk (en_c D.int 1 rfl)) (fun _ _ h => by cases h; exact (ix21 _ _)))) o_strI)) o_catS))) (lt_b rfl) (fun _ => rfl)) (fun v7 => (sb_ret (EN.tk (en_op (f := catS) (ec := D.str) (EN.pk (en_op (f := catS) (ec := D.str) (EN.pk (en_op (f := catS) (ec := D.str) (EN.pk (en_op (f := catS) (ec := D.str) (EN.pk (en_op (f := catS) (ec := D.str) (EN.pk (en_op (f := catS) (ec := D.str) (EN.pk (en_c D.str "thin(" rfl)) (EN.pk (en_call (ea_cons (EN.tk (en_opP (f := pSub) (ec := planE) (EN.pk (en_var planE p_law_design rfl)) (EN.pk (en_c D.int 1 rfl)) o_pSub)) ea_nil))) o_catS)) (EN.pk (en_c D.str ", " rfl)) o_catS)) (EN.pk (en_opP (f := pStr) (ec := D.str) (EN.pk (en_var planE p_law_design rfl)) (EN.pk (en_c D.int 2 rfl)) o_pStr)) o_catS)) (EN.pk (en_c D.str ", " rfl)) o_catS)) (EN.pk (en_var D.str v7 rfl)) o_catS)) (EN.pk (en_c D.str ")" rfl)) o_catS))))) (sb_ret (EN.tk (en_op (f := catS) (ec := D.str) (EN.pk (en_op (f := catS) (ec := D.str) (EN.pk (en_op (f := catS) (ec := D.str) (EN.pk (en_op (f := catS) (ec := D.str) (EN.pk (en_opP (f := catS) (ec := D.str) (EN.pk (en_opV (z := pTag p_law_design) (ec := D.str) (EN.pk (en_var planE p_law_design rfl)) (EN.pk (en_c D.int 0 rfl)) (o_pTag _))) (EN.pk (en_c D.str "(" rfl)) o_catS)) (EN.pk (en_call (ea_cons (EN.tk (en_opP (f := pSub) (ec := planE) (EN.pk (en_var planE p_law_design rfl)) (EN.pk (en_c D.int 1 rfl)) o_pSub)) ea_nil))) o_catS)) (EN.pk (en_c D.str ", " rfl)) o_catS)) (EN.pk (en_call (ea_cons (EN.tk (en_opP (f := pSub) (ec := planE) (EN.pk (en_var planE p_law_design rfl)) (EN.pk (en_c D.int 2 rfl)) o_pSub)) ea_nil))) o_catS)) (EN.pk (en_c D.str ")" rfl)) o_catS)))))
  show mFn 1 2 (B__law_text (F__law_text k_)) _ _ = _
  exact fn_ok hb rfl rfl h
end DL
namespace K54
open PySem PySem.Spec PyProof.Rows L2 DL
def topS (i : Nat) : Stmt := PySem.Challenge.pw_keyrates_k54_texts_of_plans.main.body.getD i (.Pass ⟨0, 0, 0, 0⟩)
structure Tx (K : PySem.W.Frag) (mg : Str → Option Value) : Prop where
  d_is_whole : DefOkK K mg "is_whole" (topS 5) ["value", "low", "high"] []
  d_common : DefOkK K mg "common" (topS 6) ["one", "other"] []
  d_columns_in : DefOkK K mg "columns_in" (topS 10) ["scheme", "table"] []
  d_tables_in : DefOkK K mg "tables_in" (topS 11) ["scheme"] []
  d_is_rate : DefOkK K mg "is_rate" (topS 15) ["value"] []
  d_columns_of : DefOkK K mg "columns_of" (topS 16) ["scheme", "frame"] []
  d_united : DefOkK K mg "united" (topS 17) ["frame", "other"] []
  d_rate_text : DefOkK K mg "rate_text" (topS 22) ["rate"] []
  d_plan_text : DefOkK K mg "plan_text" (topS 23) ["plan"] [(["plan"], [0])]
  d_passed : DefOkK K mg "passed" (topS 24) ["text", "at", "words"] []
  d_read_name : DefOkK K mg "read_name" (topS 25) ["text", "at"] []
  d_read_number : DefOkK K mg "read_number" (topS 26) ["text", "at"] []
  d_word_at : DefOkK K mg "word_at" (topS 27) ["text", "at"] []
  d_read_some : DefOkK K mg "read_some" (topS 28) ["text", "at"] []
  d_looked_over : DefOkK K mg "looked_over" (topS 29) ["scheme", "plan", "number"] []
  d_read_plan : DefOkK K mg "read_plan" (topS 30) ["scheme", "text"] [(["text", "scheme"], [1, 0])]
  d__law_deck : DefOk K mg "_law_deck" (topS 32) ["_law_script"]
  d__law_next : DefOkK K mg "_law_next" (topS 33) ["_law_deck_here", "_law_many"] []
  d__law_one : DefOkK K mg "_law_one" (topS 34) ["_law_deck_here", "_law_items"] []
  d__law_dials : DefOkK K mg "_law_dials" (topS 35) ["_law_deck_here"] []
  d__law_scheme : DefOkK K mg "_law_scheme" (topS 36) ["_law_deck_here"] []
  d__law_lowest : DefOkK K mg "_law_lowest" (topS 38) ["_law_top", "_law_bottom"] []
  d__law_rate : DefOkK K mg "_law_rate" (topS 37) ["_law_deck_here"] []
  d__law_columns : DefOkK K mg "_law_columns" (topS 39) ["_law_plot", "_law_frame"] []
  d__law_plan_of : DefOkK K mg "_law_plan_of" (topS 40) ["_law_deck_here", "_law_plot", "_law_frame", "_law_room"] []
  d__law_any_frame : DefOkK K mg "_law_any_frame" (topS 43) ["_law_deck_here", "_law_plot"] []
  d__law_plan : DefOkK K mg "_law_plan" (topS 41) ["_law_deck_here", "_law_plot"] []
  d__law_text : DefOkK K mg "_law_text" (topS 42) ["_law_design"] []
  n_abs : mg "abs" = none
  n_bool : mg "bool" = none
  n_dict : mg "dict" = none
  n_int : mg "int" = none
  n_isinstance : mg "isinstance" = none
  n_len : mg "len" = none
  n_range : mg "range" = none
  n_repr : mg "repr" = none
  n_set : mg "set" = none
  n_sorted : mg "sorted" = none
  n_str : mg "str" = none
  n_tuple : mg "tuple" = none
  c_BETWEEN : GC K mg "BETWEEN" (.str ", ")
  c_DIGITS : GC K mg "DIGITS" (.str "0123456789")
  c_LETTERS : GC K mg "LETTERS" (.str "abcdefghijklmnopqrstuvwxyz")
  c_MOST_DIGITS : GC K mg "MOST_DIGITS" (.int 4)
  c_MOST_LETTERS : GC K mg "MOST_LETTERS" (.int 6)
  c_MOST_RATE : GC K mg "MOST_RATE" (.int 1000)
  c_MOST_WORDS : GC K mg "MOST_WORDS" (.int 12)
/-! is_whole -/
abbrev s_is_whole : Stmt := topS 5
theorem sc_is_whole : FnScope ["value", "low", "high"] ["value", "low", "high"] (defScope s_is_whole) := ⟨rfl, rfl, rfl, by decide +kernel, rfl, by decide +kernel, by decide +kernel⟩
theorem D_is_whole {P : Program} {w : World} {K : PySem.W.Frag} {mg : Str → Option Value} {base : Heap} (T : Tx K mg) : FDK P w K mg base (DF w) 1 "is_whole" 3 F_is_whole [] := fdk_to T.d_is_whole sc_is_whole rfl fun f =>
  (s_one (d_ret (d_andV (d_isi .int T.n_isinstance T.n_int (d_var 0)) (d_andV (d_notV (d_isi .bool T.n_isinstance T.n_bool (d_var 0))) (d_one (d_leLe (d_var 1) (d_var 0) (d_var 2)))))))
/-! common -/
abbrev s_common : Stmt := topS 6
theorem sc_common : FnScope ["one", "other"] ["one", "other"] (defScope s_common) := ⟨rfl, rfl, rfl, by decide +kernel, rfl, by decide +kernel, by decide +kernel⟩
theorem D_common {P : Program} {w : World} {K : PySem.W.Frag} {mg : Str → Option Value} {base : Heap} (T : Tx K mg) : FDK P w K mg base (DF w) 1 "common" 2 F_common [] := fdk_to T.d_common sc_common rfl fun f =>
  (s_cons (d_par 0 1 (d_abs T.n_abs (d_var 0)) (d_abs T.n_abs (d_var 1))) (s_cons (d_while (t_ord oGt (d_var 1) d_int) (s_one (d_par 0 1 (d_var 1) (d_mod (d_var 0) (d_var 1))))) (s_one (d_ret (d_var 0)))))
/-! columns_in -/
abbrev s_columns_in : Stmt := topS 10
theorem sc_columns_in : FnScope ["scheme", "table"] ["scheme", "table"] (defScope s_columns_in) := ⟨rfl, rfl, rfl, by decide +kernel, rfl, by decide +kernel, by decide +kernel⟩
theorem D_columns_in {P : Program} {w : World} {K : PySem.W.Frag} {mg : Str → Option Value} {base : Heap} (T : Tx K mg) : FDK P w K mg base (DF w) 1 "columns_in" 2 F_columns_in [] := fdk_to T.d_columns_in sc_columns_in rfl fun f =>
  (s_one (d_ret (d_sub' (d_dict T.n_dict (d_sub' (d_var 0) d_int)) (d_var 1))))
/-! tables_in -/
abbrev s_tables_in : Stmt := topS 11
theorem sc_tables_in : FnScope ["scheme", "head"] ["scheme"] (defScope s_tables_in) := ⟨rfl, rfl, rfl, by decide +kernel, rfl, by decide +kernel, by decide +kernel⟩
theorem D_tables_in {P : Program} {w : World} {K : PySem.W.Frag} {mg : Str → Option Value} {base : Heap} (T : Tx K mg) : FDK P w K mg base (DF w) 1 "tables_in" 1 F_tables_in [] := fdk_to T.d_tables_in sc_tables_in rfl fun f =>
  (s_one (d_ret (d_tuple T.n_tuple (d_lc [("head", 1)] (i_seq (d_sub' (d_var 0) d_int)) (g_name 1) t_nil (d_sub' (d_var 1) d_int) (ok := fun _ => by kernel_rfl)))))
/-! is_rate -/
abbrev s_is_rate : Stmt := topS 15
theorem sc_is_rate : FnScope ["value"] ["value"] (defScope s_is_rate) := ⟨rfl, rfl, rfl, by decide +kernel, rfl, by decide +kernel, by decide +kernel⟩
theorem D_is_rate {P : Program} {w : World} {K : PySem.W.Frag} {mg : Str → Option Value} {base : Heap} (T : Tx K mg) : FDK P w K mg base (DF w) 2 "is_rate" 1 F_is_rate [] := fdk_to T.d_is_rate sc_is_rate rfl fun f =>
  (s_cons (d_if (DW.dt (w_or (d_not (d_test (d_isi .tuple T.n_isinstance T.n_tuple (d_var 0)))) (w_or (t_ne (d_len T.n_len (d_var 0)) d_int) (w_or1 (d_not (d_test (d_call (D_is_whole (P := P) (w := w) (K := K) (mg := mg) (base := base) T).fd (a_cons (d_sub' (d_var 0) d_int) (a_cons d_int (a_cons (d_glob T.c_MOST_RATE) a_nil))) (Nat.le_of_ble_eq_true rfl)))))))) (s_one (d_ret d_bl)) s_nil) (s_one (d_ret (d_andV (d_call (D_is_whole (P := P) (w := w) (K := K) (mg := mg) (base := base) T).fd (a_cons (d_sub' (d_var 0) d_int) (a_cons d_int (a_cons (d_sub' (d_var 0) d_int) a_nil))) (Nat.le_of_ble_eq_true rfl)) (d_one (d_eq (d_call (D_common (P := P) (w := w) (K := K) (mg := mg) (base := base) T).fd (a_cons (d_sub' (d_var 0) d_int) (a_cons (d_sub' (d_var 0) d_int) a_nil)) (Nat.le_of_ble_eq_true rfl)) d_int))))))
/-! columns_of -/
abbrev s_columns_of : Stmt := topS 16
theorem sc_columns_of : FnScope ["scheme", "frame", "found", "table"] ["scheme", "frame"] (defScope s_columns_of) := ⟨rfl, rfl, rfl, by decide +kernel, rfl, by decide +kernel, by decide +kernel⟩
theorem D_columns_of {P : Program} {w : World} {K : PySem.W.Frag} {mg : Str → Option Value} {base : Heap} (T : Tx K mg) : FDK P w K mg base (DF w) 2 "columns_of" 2 F_columns_of [] := fdk_to T.d_columns_of sc_columns_of rfl fun f =>
  (s_cons (d_set 2 (d_lst a_nil)) (s_cons (d_for (i_seq (d_var 1)) (g_name 3) (s_one (d_expr (d_ext 2 (d_call (D_columns_in (P := P) (w := w) (K := K) (mg := mg) (base := base) T).fd (a_cons (d_var 0) (a_cons (d_var 3) a_nil)) (Nat.le_of_ble_eq_true rfl)))))) (s_one (d_ret (d_tuple T.n_tuple (d_ss T.n_sorted T.n_set (d_var 2)))))))
/-! united -/
abbrev s_united : Stmt := topS 17
theorem sc_united : FnScope ["frame", "other"] ["frame", "other"] (defScope s_united) := ⟨rfl, rfl, rfl, by decide +kernel, rfl, by decide +kernel, by decide +kernel⟩
theorem D_united {P : Program} {w : World} {K : PySem.W.Frag} {mg : Str → Option Value} {base : Heap} (T : Tx K mg) : FDK P w K mg base (DF w) 1 "united" 2 F_united [] := fdk_to T.d_united sc_united rfl fun f =>
  (s_one (d_ret (d_tuple T.n_tuple (d_ss2 T.n_sorted T.n_set (d_add (d_var 0) (d_var 1))))))
/-! rate_text -/
abbrev s_rate_text : Stmt := topS 22
theorem sc_rate_text : FnScope ["rate"] ["rate"] (defScope s_rate_text) := ⟨rfl, rfl, rfl, by decide +kernel, rfl, by decide +kernel, by decide +kernel⟩
theorem D_rate_text {P : Program} {w : World} {K : PySem.W.Frag} {mg : Str → Option Value} {base : Heap} (T : Tx K mg) : FDK P w K mg base (DF w) 1 "rate_text" 1 F_rate_text [] := fdk_to T.d_rate_text sc_rate_text rfl fun f =>
  (s_one (d_ret (d_joined (j_cons (d_fmt (d_sub' (d_var 0) d_int)) (j_cons d_str (j_cons (d_fmt (d_sub' (d_var 0) d_int)) j_nil))))))
/-! plan_text -/
abbrev s_plan_text : Stmt := topS 23
theorem sc_plan_text : FnScope ["plan"] ["plan"] (defScope s_plan_text) := ⟨rfl, rfl, rfl, by decide +kernel, rfl, by decide +kernel, by decide +kernel⟩
theorem D1_plan_text {P : Program} {w : World} {K : PySem.W.Frag} {mg : Str → Option Value} {base : Heap} (T : Tx K mg) (k : Nat) (h_plan_text : FD P w K mg base (DF w) (1 + k) "plan_text" 1 (F_plan_text k)) : FDK P w K mg base (DF w) (1 + k + 1) "plan_text" 1 (F_plan_text (k + 1)) [(["plan"], [0])] := fdk_to T.d_plan_text sc_plan_text rfl fun f => let hk_ : 1 + k ≤ 1 + k := Nat.le_refl _;
    (s_cons (d_if (t_eq (d_sub' (d_var 0) d_int) d_str) (s_one (d_ret (d_add d_str (d_sub' (d_var 0) d_int)))) s_nil) (s_cons (d_if (t_eq (d_sub' (d_var 0) d_int) d_str) (s_one (d_ret (d_joined (j_cons d_str (j_cons (d_fmt (d_call h_plan_text (a_cons (d_sub' (d_var 0) d_int) a_nil) hk_)) (j_cons d_str (j_cons (d_fmt (d_sub' (d_var 0) d_int)) (j_cons d_str (j_cons (d_fmt (d_call (D_rate_text (P := P) (w := w) (K := K) (mg := mg) (base := base) T).fd (a_cons (d_sub' (d_var 0) d_int) a_nil) (Nat.le_trans (Nat.le_of_ble_eq_true (rfl : Nat.ble 1 1 = true)) (Nat.le_add_right 1 _)))) (j_cons d_str j_nil)))))))))) s_nil) (s_one (d_ret (d_joined (j_cons (d_fmt (d_sub' (d_var 0) d_int)) (j_cons d_str (j_cons (d_fmt (d_call h_plan_text (a_cons (d_sub' (d_var 0) d_int) a_nil) hk_)) (j_cons d_str (j_cons (d_fmt (d_call h_plan_text (a_cons (d_sub' (d_var 0) d_int) a_nil) hk_)) (j_cons d_str j_nil)))))))))))
theorem D0_plan_text {P : Program} {w : World} {K : PySem.W.Frag} {mg : Str → Option Value} {base : Heap} (T : Tx K mg) : ∀ k : Nat, FD P w K mg base (DF w) (1 + k) "plan_text" 1 (F_plan_text k)
  | 0 => fd_none T.d_plan_text.one 1 rfl
  | k + 1 => let h := D0_plan_text (P := P) (w := w) (K := K) (mg := mg) (base := base) T k; (D1_plan_text (P := P) (w := w) (K := K) (mg := mg) (base := base) T k h).fd
theorem D_plan_text {P : Program} {w : World} {K : PySem.W.Frag} {mg : Str → Option Value} {base : Heap} (T : Tx K mg) : FDK P w K mg base (DF w) 31 "plan_text" 1 (F_plan_text fu_plan_text) [(["plan"], [0])] := D1_plan_text (P := P) (w := w) (K := K) (mg := mg) (base := base) T 29 (D0_plan_text (P := P) (w := w) (K := K) (mg := mg) (base := base) T 29)
/-! passed -/
abbrev s_passed : Stmt := topS 24
theorem sc_passed : FnScope ["text", "at", "words", "sign"] ["text", "at", "words"] (defScope s_passed) := ⟨rfl, rfl, rfl, by decide +kernel, rfl, by decide +kernel, by decide +kernel⟩
theorem D_passed {P : Program} {w : World} {K : PySem.W.Frag} {mg : Str → Option Value} {base : Heap} (T : Tx K mg) : FDK P w K mg base (DF w) 1 "passed" 3 F_passed [] := fdk_to T.d_passed sc_passed rfl fun f =>
  (s_cons (d_for (i_seq (d_var 2)) (g_name 3) (s_cons (d_if (t_ne (d_sl (d_var 0) (p_some (d_var 1)) (p_some (d_add (d_var 1) d_int))) (d_var 3)) (s_one d_raise) s_nil) (s_one (d_aug 1 d_int)))) (s_one (d_ret (d_var 1))))
/-! read_name -/
abbrev s_read_name : Stmt := topS 25
theorem sc_read_name : FnScope ["text", "at", "end"] ["text", "at"] (defScope s_read_name) := ⟨rfl, rfl, rfl, by decide +kernel, rfl, by decide +kernel, by decide +kernel⟩
theorem D_read_name {P : Program} {w : World} {K : PySem.W.Frag} {mg : Str → Option Value} {base : Heap} (T : Tx K mg) : FDK P w K mg base (DF w) 1 "read_name" 2 F_read_name [] := fdk_to T.d_read_name sc_read_name rfl fun f =>
  (s_cons (d_set 2 (d_var 1)) (s_cons (d_while (DW.dt (w_and (t_ord oLt (d_var 2) (d_len T.n_len (d_var 0))) (w_and (t_ord oLt (d_sub (d_var 2) (d_var 1)) (d_glob T.c_MOST_LETTERS)) (w_and1 (t_in (d_sub' (d_var 0) (d_var 2)) (d_glob T.c_LETTERS)))))) (s_one (d_aug 2 d_int))) (s_cons (d_if (t_eq (d_var 2) (d_var 1)) (s_one d_raise) s_nil) (s_one (d_ret (d_tup (a_cons (d_sl (d_var 0) (p_some (d_var 1)) (p_some (d_var 2))) (a_cons (d_var 2) a_nil))))))))
/-! read_number -/
abbrev s_read_number : Stmt := topS 26
theorem sc_read_number : FnScope ["text", "at", "end"] ["text", "at"] (defScope s_read_number) := ⟨rfl, rfl, rfl, by decide +kernel, rfl, by decide +kernel, by decide +kernel⟩
theorem D_read_number {P : Program} {w : World} {K : PySem.W.Frag} {mg : Str → Option Value} {base : Heap} (T : Tx K mg) : FDK P w K mg base (DF w) 1 "read_number" 2 F_read_number [] := fdk_to T.d_read_number sc_read_number rfl fun f =>
  (s_cons (d_set 2 (d_var 1)) (s_cons (d_while (DW.dt (w_and (t_ord oLt (d_var 2) (d_len T.n_len (d_var 0))) (w_and (t_ord oLt (d_sub (d_var 2) (d_var 1)) (d_glob T.c_MOST_DIGITS)) (w_and (t_in (d_sub' (d_var 0) (d_var 2)) (d_glob T.c_DIGITS)) (w_and1 (t_ne (d_sub' (d_var 0) (d_var 1)) d_str)))))) (s_one (d_aug 2 d_int))) (s_cons (d_if (t_eq (d_var 2) (d_var 1)) (s_one d_raise) s_nil) (s_one (d_ret (d_tup (a_cons (d_intS T.n_int (d_sl (d_var 0) (p_some (d_var 1)) (p_some (d_var 2)))) (a_cons (d_var 2) a_nil))))))))
/-! word_at -/
abbrev s_word_at : Stmt := topS 27
theorem sc_word_at : FnScope ["text", "at", "word"] ["text", "at"] (defScope s_word_at) := ⟨rfl, rfl, rfl, by decide +kernel, rfl, by decide +kernel, by decide +kernel⟩
theorem D_word_at {P : Program} {w : World} {K : PySem.W.Frag} {mg : Str → Option Value} {base : Heap} (T : Tx K mg) : FDK P w K mg base (DF w) 2 "word_at" 2 F_word_at [] := fdk_to T.d_word_at sc_word_at rfl fun f =>
  (s_cons (d_for (i_seq (d_tup (a_cons d_str (a_cons d_str (a_cons d_str (a_cons d_str (a_cons d_str a_nil))))))) (g_name 2) (s_one (d_if (t_eq (d_sl (d_var 0) (p_some (d_var 1)) (p_some (d_add (d_var 1) d_int))) (d_sub' (d_var 2) d_int)) (s_one (d_ret (d_tup (a_cons (d_sl (d_var 2) p_none (p_some (d_neg d_int))) (a_cons (d_call (D_passed (P := P) (w := w) (K := K) (mg := mg) (base := base) T).fd (a_cons (d_var 0) (a_cons (d_var 1) (a_cons (d_var 2) a_nil))) (Nat.le_of_ble_eq_true rfl)) a_nil))))) s_nil))) (s_one d_raise))
/-! read_some -/
abbrev s_read_some : Stmt := topS 28
theorem sc_read_some : FnScope ["text", "at", "word", "plan", "other", "table", "column", "top", "bottom"] ["text", "at"] (defScope s_read_some) := ⟨rfl, rfl, rfl, by decide +kernel, rfl, by decide +kernel, by decide +kernel⟩
theorem D1_read_some {P : Program} {w : World} {K : PySem.W.Frag} {mg : Str → Option Value} {base : Heap} (T : Tx K mg) (k : Nat) (h_read_some : FD P w K mg base (DF w) (2 + k) "read_some" 2 (F_read_some k)) : FDK P w K mg base (DF w) (2 + k + 1) "read_some" 2 (F_read_some (k + 1)) [] := fdk_to T.d_read_some sc_read_some rfl fun f => let hk_ : 2 + k ≤ 2 + k := Nat.le_refl _;
    (s_cons (d_unp (d_call (D_word_at (P := P) (w := w) (K := K) (mg := mg) (base := base) T).fd (a_cons (d_var 0) (a_cons (d_var 1) a_nil)) (Nat.le_trans (Nat.le_of_ble_eq_true (rfl : Nat.ble 2 2 = true)) (Nat.le_add_right 2 _))) (g_tup (gs_cons (g_name 2) (gs_cons (g_name 1) gs_nil)))) (s_cons (d_if (t_eq (d_var 2) d_str) (s_cons (d_unp (d_call (D_read_name (P := P) (w := w) (K := K) (mg := mg) (base := base) T).fd (a_cons (d_var 0) (a_cons (d_var 1) a_nil)) (Nat.le_trans (Nat.le_of_ble_eq_true (rfl : Nat.ble 1 2 = true)) (Nat.le_add_right 2 _))) (g_tup (gs_cons (g_name 5) (gs_cons (g_name 1) gs_nil)))) (s_one (d_ret (d_tup (a_cons (d_tup (a_cons d_str (a_cons (d_var 5) a_nil))) (a_cons (d_var 1) a_nil)))))) s_nil) (s_cons (d_unp (d_call h_read_some (a_cons (d_var 0) (a_cons (d_var 1) a_nil)) hk_) (g_tup (gs_cons (g_name 3) (gs_cons (g_name 1) gs_nil)))) (s_cons (d_set 1 (d_call (D_passed (P := P) (w := w) (K := K) (mg := mg) (base := base) T).fd (a_cons (d_var 0) (a_cons (d_var 1) (a_cons (d_glob T.c_BETWEEN) a_nil))) (Nat.le_trans (Nat.le_of_ble_eq_true (rfl : Nat.ble 1 2 = true)) (Nat.le_add_right 2 _)))) (s_cons (d_if (t_eq (d_var 2) d_str) (s_cons (d_unp (d_call (D_read_name (P := P) (w := w) (K := K) (mg := mg) (base := base) T).fd (a_cons (d_var 0) (a_cons (d_var 1) a_nil)) (Nat.le_trans (Nat.le_of_ble_eq_true (rfl : Nat.ble 1 2 = true)) (Nat.le_add_right 2 _))) (g_tup (gs_cons (g_name 6) (gs_cons (g_name 1) gs_nil)))) (s_cons (d_unp (d_call (D_read_number (P := P) (w := w) (K := K) (mg := mg) (base := base) T).fd (a_cons (d_var 0) (a_cons (d_call (D_passed (P := P) (w := w) (K := K) (mg := mg) (base := base) T).fd (a_cons (d_var 0) (a_cons (d_var 1) (a_cons (d_glob T.c_BETWEEN) a_nil))) (Nat.le_trans (Nat.le_of_ble_eq_true (rfl : Nat.ble 1 2 = true)) (Nat.le_add_right 2 _))) a_nil)) (Nat.le_trans (Nat.le_of_ble_eq_true (rfl : Nat.ble 1 2 = true)) (Nat.le_add_right 2 _))) (g_tup (gs_cons (g_name 7) (gs_cons (g_name 1) gs_nil)))) (s_cons (d_unp (d_call (D_read_number (P := P) (w := w) (K := K) (mg := mg) (base := base) T).fd (a_cons (d_var 0) (a_cons (d_call (D_passed (P := P) (w := w) (K := K) (mg := mg) (base := base) T).fd (a_cons (d_var 0) (a_cons (d_var 1) (a_cons d_str a_nil))) (Nat.le_trans (Nat.le_of_ble_eq_true (rfl : Nat.ble 1 2 = true)) (Nat.le_add_right 2 _))) a_nil)) (Nat.le_trans (Nat.le_of_ble_eq_true (rfl : Nat.ble 1 2 = true)) (Nat.le_add_right 2 _))) (g_tup (gs_cons (g_name 8) (gs_cons (g_name 1) gs_nil)))) (s_one (d_ret (d_tup (a_cons (d_tup (a_cons d_str (a_cons (d_var 3) (a_cons (d_var 6) (a_cons (d_tup (a_cons (d_var 7) (a_cons (d_var 8) a_nil))) a_nil))))) (a_cons (d_call (D_passed (P := P) (w := w) (K := K) (mg := mg) (base := base) T).fd (a_cons (d_var 0) (a_cons (d_var 1) (a_cons d_str a_nil))) (Nat.le_trans (Nat.le_of_ble_eq_true (rfl : Nat.ble 1 2 = true)) (Nat.le_add_right 2 _))) a_nil)))))))) s_nil) (s_cons (d_unp (d_call h_read_some (a_cons (d_var 0) (a_cons (d_var 1) a_nil)) hk_) (g_tup (gs_cons (g_name 4) (gs_cons (g_name 1) gs_nil)))) (s_one (d_ret (d_tup (a_cons (d_tup (a_cons (d_var 2) (a_cons (d_var 3) (a_cons (d_var 4) a_nil)))) (a_cons (d_call (D_passed (P := P) (w := w) (K := K) (mg := mg) (base := base) T).fd (a_cons (d_var 0) (a_cons (d_var 1) (a_cons d_str a_nil))) (Nat.le_trans (Nat.le_of_ble_eq_true (rfl : Nat.ble 1 2 = true)) (Nat.le_add_right 2 _))) a_nil)))))))))))
theorem D0_read_some {P : Program} {w : World} {K : PySem.W.Frag} {mg : Str → Option Value} {base : Heap} (T : Tx K mg) : ∀ k : Nat, FD P w K mg base (DF w) (2 + k) "read_some" 2 (F_read_some k)
  | 0 => fd_none T.d_read_some.one 2 rfl
  | k + 1 => let h := D0_read_some (P := P) (w := w) (K := K) (mg := mg) (base := base) T k; (D1_read_some (P := P) (w := w) (K := K) (mg := mg) (base := base) T k h).fd
theorem D_read_some {P : Program} {w : World} {K : PySem.W.Frag} {mg : Str → Option Value} {base : Heap} (T : Tx K mg) : FDK P w K mg base (DF w) 32 "read_some" 2 (F_read_some fu_read_some) [] := D1_read_some (P := P) (w := w) (K := K) (mg := mg) (base := base) T 29 (D0_read_some (P := P) (w := w) (K := K) (mg := mg) (base := base) T 29)
/-! looked_over -/
abbrev s_looked_over : Stmt := topS 29
theorem sc_looked_over : FnScope ["scheme", "plan", "number", "frame", "later", "other"] ["scheme", "plan", "number"] (defScope s_looked_over) := ⟨rfl, rfl, rfl, by decide +kernel, rfl, by decide +kernel, by decide +kernel⟩
theorem D1_looked_over {P : Program} {w : World} {K : PySem.W.Frag} {mg : Str → Option Value} {base : Heap} (T : Tx K mg) (k : Nat) (h_looked_over : FD P w K mg base (DF w) (2 + k) "looked_over" 3 (F_looked_over k)) : FDK P w K mg base (DF w) (2 + k + 1) "looked_over" 3 (F_looked_over (k + 1)) [] := fdk_to T.d_looked_over sc_looked_over rfl fun f => let hk_ : 2 + k ≤ 2 + k := Nat.le_refl _;
    (s_cons (d_if (t_eq (d_sub' (d_var 1) d_int) d_str) (s_cons (d_if (t_nin (d_sub' (d_var 1) d_int) (d_call (D_tables_in (P := P) (w := w) (K := K) (mg := mg) (base := base) T).fd (a_cons (d_var 0) a_nil) (Nat.le_trans (Nat.le_of_ble_eq_true (rfl : Nat.ble 1 2 = true)) (Nat.le_add_right 2 _)))) (s_one d_raise) s_nil) (s_one (d_ret (d_tup (a_cons (d_tup (a_cons (d_sub' (d_var 1) d_int) a_nil)) (a_cons (d_add (d_var 2) d_int) a_nil)))))) s_nil) (s_cons (d_unp (d_call h_looked_over (a_cons (d_var 0) (a_cons (d_sub' (d_var 1) d_int) (a_cons (d_add (d_var 2) d_int) a_nil))) hk_) (g_tup (gs_cons (g_name 3) (gs_cons (g_name 4) gs_nil)))) (s_cons (d_if (t_eq (d_sub' (d_var 1) d_int) d_str) (s_cons (d_if (DW.dt (w_or (t_nin (d_sub' (d_var 1) d_int) (d_call (D_columns_of (P := P) (w := w) (K := K) (mg := mg) (base := base) T).fd (a_cons (d_var 0) (a_cons (d_var 3) a_nil)) (Nat.le_trans (Nat.le_of_ble_eq_true (rfl : Nat.ble 2 2 = true)) (Nat.le_add_right 2 _)))) (w_or1 (d_not (d_test (d_call (D_is_rate (P := P) (w := w) (K := K) (mg := mg) (base := base) T).fd (a_cons (d_sub' (d_var 1) d_int) a_nil) (Nat.le_trans (Nat.le_of_ble_eq_true (rfl : Nat.ble 2 2 = true)) (Nat.le_add_right 2 _)))))))) (s_one d_raise) s_nil) (s_one (d_ret (d_tup (a_cons (d_var 3) (a_cons (d_var 4) a_nil)))))) s_nil) (s_cons (d_unp (d_call h_looked_over (a_cons (d_var 0) (a_cons (d_sub' (d_var 1) d_int) (a_cons (d_var 4) a_nil))) hk_) (g_tup (gs_cons (g_name 5) (gs_cons (g_name 4) gs_nil)))) (s_cons (d_if (DW.dt (w_and (t_ne (d_sub' (d_var 1) d_int) d_str) (w_and1 (t_ne (d_var 3) (d_var 5))))) (s_one d_raise) s_nil) (s_one (d_ret (d_tup (a_cons (d_call (D_united (P := P) (w := w) (K := K) (mg := mg) (base := base) T).fd (a_cons (d_var 3) (a_cons (d_var 5) a_nil)) (Nat.le_trans (Nat.le_of_ble_eq_true (rfl : Nat.ble 1 2 = true)) (Nat.le_add_right 2 _))) (a_cons (d_var 4) a_nil))))))))))
theorem D0_looked_over {P : Program} {w : World} {K : PySem.W.Frag} {mg : Str → Option Value} {base : Heap} (T : Tx K mg) : ∀ k : Nat, FD P w K mg base (DF w) (2 + k) "looked_over" 3 (F_looked_over k)
  | 0 => fd_none T.d_looked_over.one 2 rfl
  | k + 1 => let h := D0_looked_over (P := P) (w := w) (K := K) (mg := mg) (base := base) T k; (D1_looked_over (P := P) (w := w) (K := K) (mg := mg) (base := base) T k h).fd
theorem D_looked_over {P : Program} {w : World} {K : PySem.W.Frag} {mg : Str → Option Value} {base : Heap} (T : Tx K mg) : FDK P w K mg base (DF w) 32 "looked_over" 3 (F_looked_over fu_looked_over) [] := D1_looked_over (P := P) (w := w) (K := K) (mg := mg) (base := base) T 29 (D0_looked_over (P := P) (w := w) (K := K) (mg := mg) (base := base) T 29)
/-! read_plan -/
abbrev s_read_plan : Stmt := topS 30
theorem sc_read_plan : FnScope ["scheme", "text", "many", "plan", "at"] ["scheme", "text"] (defScope s_read_plan) := ⟨rfl, rfl, rfl, by decide +kernel, rfl, by decide +kernel, by decide +kernel⟩
theorem D_read_plan {P : Program} {w : World} {K : PySem.W.Frag} {mg : Str → Option Value} {base : Heap} (T : Tx K mg) : FDK P w K mg base (DF w) 33 "read_plan" 2 F_read_plan [(["text", "scheme"], [1, 0])] := fdk_to T.d_read_plan sc_read_plan rfl fun f =>
  (s_cons (d_unp (d_call (D_read_some (P := P) (w := w) (K := K) (mg := mg) (base := base) T).fd (a_cons (d_var 1) (a_cons d_int a_nil)) (Nat.le_of_ble_eq_true rfl)) (g_tup (gs_cons (g_name 3) (gs_cons (g_name 4) gs_nil)))) (s_cons (d_if (t_ord oLt (d_var 4) (d_len T.n_len (d_var 1))) (s_one d_raise) s_nil) (s_cons (d_set 2 (d_sub' (d_call (D_looked_over (P := P) (w := w) (K := K) (mg := mg) (base := base) T).fd (a_cons (d_var 0) (a_cons (d_var 3) (a_cons d_int a_nil))) (Nat.le_of_ble_eq_true rfl)) d_int)) (s_cons (d_if (t_ord oGt (d_var 2) (d_glob T.c_MOST_WORDS)) (s_one d_raise) s_nil) (s_one (d_ret (d_var 3)))))))
/-! _law_next -/
abbrev s__law_next : Stmt := topS 33
theorem sc__law_next : FnScope ["_law_deck_here", "_law_many", "_law_turn", "_law_number", "_law_mixed", "_law_rest"] ["_law_deck_here", "_law_many"] (defScope s__law_next) := ⟨rfl, rfl, rfl, by decide +kernel, rfl, by decide +kernel, by decide +kernel⟩
theorem D__law_next {P : Program} {w : World} {K : PySem.W.Frag} {mg : Str → Option Value} {base : Heap} (T : Tx K mg) : FDK P w K mg base (DF w) 1 "_law_next" 2 F__law_next [] := fdk_to T.d__law_next sc__law_next rfl fun f =>
  (s_cons (d_while (t_neW rdW (d_subW rdW (d_var 0) d_int) (d_lst a_nil)) (s_cons (d_set 5 (d_subW rdW (d_subW rdW (d_var 0) d_int) d_int)) (s_cons (d_if (t_ord oGt (d_var 5) d_int) (s_cons (d_putW (d_subW rdW (d_var 0) d_int) d_int (d_fdiv (d_var 5) (d_var 1))) (s_one (d_ret (d_mod (d_int1 T.n_int (d_var 5)) (d_var 1))))) s_nil) (s_one (d_expr (d_popW (d_subW rdW (d_var 0) d_int))))))) (s_cons (d_putW (d_var 0) d_int (d_add (d_subW rdW (d_var 0) d_int) d_int)) (s_cons (d_set 2 (d_subW rdW (d_var 0) d_int)) (s_cons (d_set 3 (d_mod (d_int1 T.n_int (d_subW rdW (d_subW rdW (d_var 0) d_int) (d_mod (d_int1 T.n_int (d_var 2)) (d_lenW rdW T.n_len (d_subW rdW (d_var 0) d_int))))) d_int)) (s_cons (d_set 4 (d_mod (d_int1 T.n_int (d_add (d_add (d_mul (d_var 3) (d_add d_int (d_mul d_int (d_var 2)))) (d_mul (d_mul d_int (d_var 2)) (d_var 2))) d_int)) d_int)) (s_one (d_ret (d_mod (d_fdiv (d_mod (d_int1 T.n_int (d_mul (d_var 4) (d_var 4))) d_int) d_int) (d_var 1)))))))))
/-! _law_one -/
abbrev s__law_one : Stmt := topS 34
theorem sc__law_one : FnScope ["_law_deck_here", "_law_items"] ["_law_deck_here", "_law_items"] (defScope s__law_one) := ⟨rfl, rfl, rfl, by decide +kernel, rfl, by decide +kernel, by decide +kernel⟩
theorem D__law_one {P : Program} {w : World} {K : PySem.W.Frag} {mg : Str → Option Value} {base : Heap} (T : Tx K mg) : FDK P w K mg base (DF w) 2 "_law_one" 2 F__law_one [] := fdk_to T.d__law_one sc__law_one rfl fun f =>
  (s_one (d_ret (d_sub' (d_var 1) (d_call (D__law_next (P := P) (w := w) (K := K) (mg := mg) (base := base) T).fd (a_cons (d_var 0) (a_cons (d_len T.n_len (d_var 1)) a_nil)) (Nat.le_of_ble_eq_true rfl)))))
/-! _law_dials -/
abbrev s__law_dials : Stmt := topS 35
theorem sc__law_dials : FnScope ["_law_deck_here", "_law_names", "_law_some", "_law_dials_here", "_law_column", "_law_turn"] ["_law_deck_here"] (defScope s__law_dials) := ⟨rfl, rfl, rfl, by decide +kernel, rfl, by decide +kernel, by decide +kernel⟩
theorem D__law_dials {P : Program} {w : World} {K : PySem.W.Frag} {mg : Str → Option Value} {base : Heap} (T : Tx K mg) : FDK P w K mg base (DF w) 3 "_law_dials" 1 F__law_dials [] := fdk_to T.d__law_dials sc__law_dials rfl fun f =>
  (s_cons (d_set 1 (d_lst (a_cons d_str (a_cons d_str (a_cons d_str (a_cons d_str (a_cons d_str (a_cons d_str (a_cons d_str (a_cons d_str a_nil)))))))))) (s_cons (d_set 2 (d_sl (d_ss T.n_sorted T.n_set (d_lc [("_law_turn", 5)] (i_range1 (d_add d_int (d_call (D__law_next (P := P) (w := w) (K := K) (mg := mg) (base := base) T).fd (a_cons (d_var 0) (a_cons d_int a_nil)) (Nat.le_of_ble_eq_true rfl))) (hm := T.n_range)) (g_name 5) t_nil (d_call (D__law_one (P := P) (w := w) (K := K) (mg := mg) (base := base) T).fd (a_cons (d_var 0) (a_cons (d_var 1) a_nil)) (Nat.le_of_ble_eq_true rfl)) (ok := fun _ => by kernel_rfl))) p_none (p_some d_int))) (s_cons (d_set 3 (d_sub' (d_lst (a_cons (d_lst (a_cons d_str (a_cons d_str (a_cons d_str a_nil)))) (a_cons (d_lst (a_cons d_str a_nil)) (a_cons (d_lst (a_cons d_str (a_cons d_str (a_cons d_str (a_cons d_str a_nil))))) a_nil)))) (d_call (D__law_next (P := P) (w := w) (K := K) (mg := mg) (base := base) T).fd (a_cons (d_var 0) (a_cons d_int a_nil)) (Nat.le_of_ble_eq_true rfl)))) (s_one (d_ret (d_tuple T.n_tuple (d_lc [("_law_column", 4)] (i_seq (d_var 2)) (g_name 4) t_nil (d_tup (a_cons (d_var 4) (a_cons (d_call (D__law_one (P := P) (w := w) (K := K) (mg := mg) (base := base) T).fd (a_cons (d_var 0) (a_cons (d_var 3) a_nil)) (Nat.le_of_ble_eq_true rfl)) a_nil))) (ok := fun _ => by kernel_rfl))))))))
/-! _law_scheme -/
abbrev s__law_scheme : Stmt := topS 36
theorem sc__law_scheme : FnScope ["_law_deck_here", "_law_columns_here", "_law_turn", "_law_dials_here", "_law_heads", "_law_some", "_law_column", "_law_dial", "_law_table", "_law_again"] ["_law_deck_here"] (defScope s__law_scheme) := ⟨rfl, rfl, rfl, by decide +kernel, rfl, by decide +kernel, by decide +kernel⟩
theorem D__law_scheme {P : Program} {w : World} {K : PySem.W.Frag} {mg : Str → Option Value} {base : Heap} (T : Tx K mg) : FDK P w K mg base (DF w) 4 "_law_scheme" 1 F__law_scheme [] := fdk_to T.d__law_scheme sc__law_scheme rfl fun f =>
  (s_cons (d_parT 3 4 (d_call (D__law_dials (P := P) (w := w) (K := K) (mg := mg) (base := base) T).fd (a_cons (d_var 0) a_nil) (Nat.le_of_ble_eq_true rfl)) d_dnew) (s_cons (d_set 1 (d_lc [("_law_column", 6), ("_law_dial", 7)] (i_seq (d_var 3)) (g_tup (gs_cons (g_name 6) (gs_cons (g_name 7) gs_nil))) t_nil (d_var 6) (ok := fun _ => by kernel_rfl))) (s_cons (d_for (i_range1 (d_add d_int (d_call (D__law_next (P := P) (w := w) (K := K) (mg := mg) (base := base) T).fd (a_cons (d_var 0) (a_cons d_int a_nil)) (Nat.le_of_ble_eq_true rfl))) (hm := T.n_range)) (g_name 2) (s_cons (d_set 5 (d_sl (d_ss T.n_sorted T.n_set (d_lc [("_law_again", 9)] (i_range1 (d_add d_int (d_call (D__law_next (P := P) (w := w) (K := K) (mg := mg) (base := base) T).fd (a_cons (d_var 0) (a_cons d_int a_nil)) (Nat.le_of_ble_eq_true rfl))) (hm := T.n_range)) (g_name 9) t_nil (d_call (D__law_one (P := P) (w := w) (K := K) (mg := mg) (base := base) T).fd (a_cons (d_var 0) (a_cons (d_var 1) a_nil)) (Nat.le_of_ble_eq_true rfl)) (ok := fun _ => by kernel_rfl))) p_none (p_some d_int))) (s_one (d_dput 4 (d_tuple T.n_tuple (d_var 5)) (d_call (D__law_one (P := P) (w := w) (K := K) (mg := mg) (base := base) T).fd (a_cons (d_var 0) (a_cons (d_lst (a_cons d_str (a_cons d_str (a_cons d_str (a_cons d_str (a_cons d_str (a_cons d_str a_nil))))))) a_nil)) (Nat.le_of_ble_eq_true rfl)))))) (s_one (d_ret (d_tup (a_cons (d_var 3) (a_cons (d_tuple T.n_tuple (d_lc [("_law_table", 8)] (i_seq (d_sortD T.n_sorted (d_var 4))) (g_name 8) t_nil (d_tup (a_cons (d_var 8) (a_cons (d_sub' (d_var 4) (d_var 8)) a_nil))) (ok := fun _ => by kernel_rfl))) a_nil))))))))
/-! _law_lowest -/
abbrev s__law_lowest : Stmt := topS 38
theorem sc__law_lowest : FnScope ["_law_top", "_law_bottom", "_law_one_here", "_law_other"] ["_law_top", "_law_bottom"] (defScope s__law_lowest) := ⟨rfl, rfl, rfl, by decide +kernel, rfl, by decide +kernel, by decide +kernel⟩
theorem D__law_lowest {P : Program} {w : World} {K : PySem.W.Frag} {mg : Str → Option Value} {base : Heap} (T : Tx K mg) : FDK P w K mg base (DF w) 1 "_law_lowest" 2 F__law_lowest [] := fdk_to T.d__law_lowest sc__law_lowest rfl fun f =>
  (s_cons (d_par 2 3 (d_abs T.n_abs (d_var 0)) (d_var 1)) (s_cons (d_while (t_ord oGt (d_var 3) d_int) (s_one (d_par 2 3 (d_var 3) (d_mod (d_int1 T.n_int (d_var 2)) (d_var 3))))) (s_one (d_ret (d_tup (a_cons (d_fdiv (d_var 0) (d_var 2)) (a_cons (d_fdiv (d_var 1) (d_var 2)) a_nil)))))))
/-! _law_rate -/
abbrev s__law_rate : Stmt := topS 37
theorem sc__law_rate : FnScope ["_law_deck_here", "_law_some", "_law_at", "_law_bottom"] ["_law_deck_here"] (defScope s__law_rate) := ⟨rfl, rfl, rfl, by decide +kernel, rfl, by decide +kernel, by decide +kernel⟩
theorem D__law_rate {P : Program} {w : World} {K : PySem.W.Frag} {mg : Str → Option Value} {base : Heap} (T : Tx K mg) : FDK P w K mg base (DF w) 2 "_law_rate" 1 F__law_rate [] := fdk_to T.d__law_rate sc__law_rate rfl fun f =>
  (s_cons (d_set 1 (d_shr (d_lst (a_cons (d_tup (a_cons d_int (a_cons d_int a_nil))) (a_cons (d_tup (a_cons d_int (a_cons d_int a_nil))) (a_cons (d_tup (a_cons d_int (a_cons d_int a_nil))) (a_cons (d_tup (a_cons d_int (a_cons d_int a_nil))) (a_cons (d_tup (a_cons d_int (a_cons d_int a_nil))) (a_cons (d_tup (a_cons d_int (a_cons d_int a_nil))) (a_cons (d_tup (a_cons d_int (a_cons d_int a_nil))) (a_cons (d_tup (a_cons d_int (a_cons d_int a_nil))) (a_cons (d_tup (a_cons d_int (a_cons d_int a_nil))) a_nil)))))))))))) (s_cons (d_set 2 (d_call (D__law_next (P := P) (w := w) (K := K) (mg := mg) (base := base) T).fd (a_cons (d_var 0) (a_cons d_int a_nil)) (Nat.le_of_ble_eq_true rfl))) (s_cons (d_if (t_ord oLt (d_var 2) d_int) (s_one (d_ret (d_sub' (d_var 1) (d_var 2)))) s_nil) (s_cons (d_set 3 (d_shr (d_add d_int (d_call (D__law_next (P := P) (w := w) (K := K) (mg := mg) (base := base) T).fd (a_cons (d_var 0) (a_cons d_int a_nil)) (Nat.le_of_ble_eq_true rfl))))) (s_one (d_ret (d_call (D__law_lowest (P := P) (w := w) (K := K) (mg := mg) (base := base) T).fd (a_cons (d_add d_int (d_call (D__law_next (P := P) (w := w) (K := K) (mg := mg) (base := base) T).fd (a_cons (d_var 0) (a_cons (d_var 3) a_nil)) (Nat.le_of_ble_eq_true rfl))) (a_cons (d_var 3) a_nil)) (Nat.le_of_ble_eq_true rfl))))))))
/-! _law_columns -/
abbrev s__law_columns : Stmt := topS 39
theorem sc__law_columns : FnScope ["_law_plot", "_law_frame", "_law_found", "_law_table", "_law_columns_here"] ["_law_plot", "_law_frame"] (defScope s__law_columns) := ⟨rfl, rfl, rfl, by decide +kernel, rfl, by decide +kernel, by decide +kernel⟩
theorem D__law_columns {P : Program} {w : World} {K : PySem.W.Frag} {mg : Str → Option Value} {base : Heap} (T : Tx K mg) : FDK P w K mg base (DF w) 1 "_law_columns" 2 F__law_columns [] := fdk_to T.d__law_columns sc__law_columns rfl fun f =>
  (s_cons (d_set 2 (d_lst a_nil)) (s_cons (d_for (i_seq (d_sub' (d_var 0) d_int)) (g_tup (gs_cons (g_name 3) (gs_cons (g_name 4) gs_nil))) (s_one (d_if (t_in (d_var 3) (d_var 1)) (s_one (d_expr (d_ext 2 (d_var 4)))) s_nil))) (s_one (d_ret (d_tuple T.n_tuple (d_ss T.n_sorted T.n_set (d_var 2)))))))
/-! _law_plan_of -/
abbrev s__law_plan_of : Stmt := topS 40
theorem sc__law_plan_of : FnScope ["_law_deck_here", "_law_plot", "_law_frame", "_law_room", "_law_need", "_law_way", "_law_cut", "_law_turned", "_law_left", "_law_more", "_law_one_here", "_law_column", "_law_half", "_law_first", "_law_last"] ["_law_deck_here", "_law_plot", "_law_frame", "_law_room"] (defScope s__law_plan_of) := ⟨rfl, rfl, rfl, by decide +kernel, rfl, by decide +kernel, by decide +kernel⟩
theorem D1__law_plan_of {P : Program} {w : World} {K : PySem.W.Frag} {mg : Str → Option Value} {base : Heap} (T : Tx K mg) (k : Nat) (h__law_plan_of : FD P w K mg base (DF w) (2 + k) "_law_plan_of" 4 (F__law_plan_of k)) : FDK P w K mg base (DF w) (2 + k + 1) "_law_plan_of" 4 (F__law_plan_of (k + 1)) [] := fdk_to T.d__law_plan_of sc__law_plan_of rfl fun f => let hk_ : 2 + k ≤ 2 + k := Nat.le_refl _;
    (s_cons (d_set 4 (d_sub (d_mul2 d_int (d_len T.n_len (d_var 2))) d_int)) (s_cons (d_set 5 (d_call (D__law_next (P := P) (w := w) (K := K) (mg := mg) (base := base) T).fd (a_cons (d_var 0) (a_cons d_int a_nil)) (Nat.le_trans (Nat.le_of_ble_eq_true (rfl : Nat.ble 1 2 = true)) (Nat.le_add_right 2 _)))) (s_cons (d_if (DW.dt (w_and (t_ord oLt (d_var 5) d_int) (w_and1 (t_ord oGt (d_var 3) (d_var 4))))) (s_cons (d_set 11 (d_call (D__law_one (P := P) (w := w) (K := K) (mg := mg) (base := base) T).fd (a_cons (d_var 0) (a_cons (d_call (D__law_columns (P := P) (w := w) (K := K) (mg := mg) (base := base) T).fd (a_cons (d_var 1) (a_cons (d_var 2) a_nil)) (Nat.le_trans (Nat.le_of_ble_eq_true (rfl : Nat.ble 1 2 = true)) (Nat.le_add_right 2 _))) a_nil)) (Nat.le_trans (Nat.le_of_ble_eq_true (rfl : Nat.ble 2 2 = true)) (Nat.le_add_right 2 _)))) (s_one (d_ret (d_tup (a_cons d_str (a_cons (d_call h__law_plan_of (a_cons (d_var 0) (a_cons (d_var 1) (a_cons (d_var 2) (a_cons (d_sub (d_var 3) d_int) a_nil)))) hk_) (a_cons (d_var 11) (a_cons (d_call (D__law_rate (P := P) (w := w) (K := K) (mg := mg) (base := base) T).fd (a_cons (d_var 0) a_nil) (Nat.le_trans (Nat.le_of_ble_eq_true (rfl : Nat.ble 2 2 = true)) (Nat.le_add_right 2 _))) a_nil)))))))) s_nil) (s_cons (d_if (DW.dt (w_and (t_ord oLt (d_var 5) d_int) (w_and1 (t_ord oGt (d_var 3) (d_mul2 d_int (d_var 4)))))) (s_cons (d_set 12 (d_shr (d_add (d_var 4) (d_call (D__law_next (P := P) (w := w) (K := K) (mg := mg) (base := base) T).fd (a_cons (d_var 0) (a_cons (d_sub (d_var 3) (d_mul2 d_int (d_var 4))) a_nil)) (Nat.le_trans (Nat.le_of_ble_eq_true (rfl : Nat.ble 1 2 = true)) (Nat.le_add_right 2 _)))))) (s_cons (d_set 10 (d_call h__law_plan_of (a_cons (d_var 0) (a_cons (d_var 1) (a_cons (d_var 2) (a_cons (d_var 12) a_nil)))) hk_)) (s_one (d_ret (d_tup (a_cons (d_sub' (d_lst (a_cons d_str (a_cons d_str a_nil))) (d_sub (d_var 5) d_int)) (a_cons (d_var 10) (a_cons (d_call h__law_plan_of (a_cons (d_var 0) (a_cons (d_var 1) (a_cons (d_var 2) (a_cons (d_sub (d_sub (d_var 3) d_int) (d_var 12)) a_nil)))) hk_) a_nil)))))))) s_nil) (s_cons (d_if (t_eq (d_len T.n_len (d_var 2)) d_int) (s_one (d_ret (d_tup (a_cons d_str (a_cons (d_sub' (d_var 2) d_int) a_nil))))) s_nil) (s_cons (d_set 6 (d_shr (d_add d_int (d_call (D__law_next (P := P) (w := w) (K := K) (mg := mg) (base := base) T).fd (a_cons (d_var 0) (a_cons (d_sub (d_len T.n_len (d_var 2)) d_int) a_nil)) (Nat.le_trans (Nat.le_of_ble_eq_true (rfl : Nat.ble 1 2 = true)) (Nat.le_add_right 2 _)))))) (s_cons (d_set 7 (d_eq (d_call (D__law_next (P := P) (w := w) (K := K) (mg := mg) (base := base) T).fd (a_cons (d_var 0) (a_cons d_int a_nil)) (Nat.le_trans (Nat.le_of_ble_eq_true (rfl : Nat.ble 1 2 = true)) (Nat.le_add_right 2 _))) d_int)) (s_cons (d_unp (d_ifx (d_test (d_var 7)) (d_tup (a_cons (d_sl (d_var 2) p_none (p_some (d_var 6))) (a_cons (d_sl (d_var 2) (p_some (d_var 6)) p_none) a_nil))) (d_tup (a_cons (d_sl (d_var 2) (p_some (d_var 6)) p_none) (a_cons (d_sl (d_var 2) p_none (p_some (d_var 6))) a_nil)))) (g_tup (gs_cons (g_name 13) (gs_cons (g_name 14) gs_nil)))) (s_cons (d_set 8 (d_sub (d_sub (d_sub (d_var 3) d_int) (d_sub (d_mul2 d_int (d_len T.n_len (d_var 13))) d_int)) (d_sub (d_mul2 d_int (d_len T.n_len (d_var 14))) d_int))) (s_cons (d_if (DW.dt (w_and (t_ord oGt (d_var 8) d_int) (w_and1 (t_eq (d_call (D__law_next (P := P) (w := w) (K := K) (mg := mg) (base := base) T).fd (a_cons (d_var 0) (a_cons d_int a_nil)) (Nat.le_trans (Nat.le_of_ble_eq_true (rfl : Nat.ble 1 2 = true)) (Nat.le_add_right 2 _))) d_int)))) (s_one (d_par 14 8 (d_tuple T.n_tuple (d_ss2 T.n_sorted T.n_set (d_add (d_var 14) (d_sl (d_var 13) p_none (p_some d_int))))) (d_sub (d_var 8) d_int))) s_nil) (s_cons (d_set 9 (d_call (D__law_next (P := P) (w := w) (K := K) (mg := mg) (base := base) T).fd (a_cons (d_var 0) (a_cons (d_add (d_var 8) d_int) a_nil)) (Nat.le_trans (Nat.le_of_ble_eq_true (rfl : Nat.ble 1 2 = true)) (Nat.le_add_right 2 _)))) (s_cons (d_set 10 (d_call h__law_plan_of (a_cons (d_var 0) (a_cons (d_var 1) (a_cons (d_var 13) (a_cons (d_add (d_sub (d_mul2 d_int (d_len T.n_len (d_var 13))) d_int) (d_var 9)) a_nil)))) hk_)) (s_one (d_ret (d_tup (a_cons d_str (a_cons (d_var 10) (a_cons (d_call h__law_plan_of (a_cons (d_var 0) (a_cons (d_var 1) (a_cons (d_var 14) (a_cons (d_sub (d_add (d_sub (d_mul2 d_int (d_len T.n_len (d_var 14))) d_int) (d_var 8)) (d_var 9)) a_nil)))) hk_) a_nil))))))))))))))))))
theorem D0__law_plan_of {P : Program} {w : World} {K : PySem.W.Frag} {mg : Str → Option Value} {base : Heap} (T : Tx K mg) : ∀ k : Nat, FD P w K mg base (DF w) (2 + k) "_law_plan_of" 4 (F__law_plan_of k)
  | 0 => fd_none T.d__law_plan_of.one 2 rfl
  | k + 1 => let h := D0__law_plan_of (P := P) (w := w) (K := K) (mg := mg) (base := base) T k; (D1__law_plan_of (P := P) (w := w) (K := K) (mg := mg) (base := base) T k h).fd
theorem D__law_plan_of {P : Program} {w : World} {K : PySem.W.Frag} {mg : Str → Option Value} {base : Heap} (T : Tx K mg) : FDK P w K mg base (DF w) 32 "_law_plan_of" 4 (F__law_plan_of fu__law_plan_of) [] := D1__law_plan_of (P := P) (w := w) (K := K) (mg := mg) (base := base) T 29 (D0__law_plan_of (P := P) (w := w) (K := K) (mg := mg) (base := base) T 29)
/-! _law_any_frame -/
abbrev s__law_any_frame : Stmt := topS 43
theorem sc__law_any_frame : FnScope ["_law_deck_here", "_law_plot", "_law_names", "_law_many", "_law_table", "_law_columns_here", "_law_turn"] ["_law_deck_here", "_law_plot"] (defScope s__law_any_frame) := ⟨rfl, rfl, rfl, by decide +kernel, rfl, by decide +kernel, by decide +kernel⟩
theorem D__law_any_frame {P : Program} {w : World} {K : PySem.W.Frag} {mg : Str → Option Value} {base : Heap} (T : Tx K mg) : FDK P w K mg base (DF w) 3 "_law_any_frame" 2 F__law_any_frame [] := fdk_to T.d__law_any_frame sc__law_any_frame rfl fun f =>
  (s_cons (d_set 2 (d_shr (d_lc [("_law_table", 4), ("_law_columns_here", 5)] (i_seq (d_sub' (d_var 1) d_int)) (g_tup (gs_cons (g_name 4) (gs_cons (g_name 5) gs_nil))) t_nil (d_var 4) (ok := fun _ => by kernel_rfl)))) (s_cons (d_set 3 (d_shr (d_add d_int (d_call (D__law_next (P := P) (w := w) (K := K) (mg := mg) (base := base) T).fd (a_cons (d_var 0) (a_cons d_int a_nil)) (Nat.le_of_ble_eq_true rfl))))) (s_one (d_ret (d_tuple T.n_tuple (d_ss2 T.n_sorted T.n_set (d_lc [("_law_turn", 6)] (i_range1 (d_var 3) (hm := T.n_range)) (g_name 6) t_nil (d_call (D__law_one (P := P) (w := w) (K := K) (mg := mg) (base := base) T).fd (a_cons (d_var 0) (a_cons (d_var 2) a_nil)) (Nat.le_of_ble_eq_true rfl)) (ok := fun _ => by kernel_rfl))))))))
/-! _law_plan -/
abbrev s__law_plan : Stmt := topS 41
theorem sc__law_plan : FnScope ["_law_deck_here", "_law_plot", "_law_frame", "_law_need"] ["_law_deck_here", "_law_plot"] (defScope s__law_plan) := ⟨rfl, rfl, rfl, by decide +kernel, rfl, by decide +kernel, by decide +kernel⟩
theorem D__law_plan {P : Program} {w : World} {K : PySem.W.Frag} {mg : Str → Option Value} {base : Heap} (T : Tx K mg) : FDK P w K mg base (DF w) 33 "_law_plan" 2 F__law_plan [] := fdk_to T.d__law_plan sc__law_plan rfl fun f =>
  (s_cons (d_set 2 (d_call (D__law_any_frame (P := P) (w := w) (K := K) (mg := mg) (base := base) T).fd (a_cons (d_var 0) (a_cons (d_var 1) a_nil)) (Nat.le_of_ble_eq_true rfl))) (s_cons (d_set 3 (d_sub (d_mul2 d_int (d_len T.n_len (d_var 2))) d_int)) (s_one (d_ret (d_call (D__law_plan_of (P := P) (w := w) (K := K) (mg := mg) (base := base) T).fd (a_cons (d_var 0) (a_cons (d_var 1) (a_cons (d_var 2) (a_cons (d_add (d_var 3) (d_call (D__law_next (P := P) (w := w) (K := K) (mg := mg) (base := base) T).fd (a_cons (d_var 0) (a_cons (d_sub d_int (d_var 3)) a_nil)) (Nat.le_of_ble_eq_true rfl))) a_nil)))) (Nat.le_of_ble_eq_true rfl))))))
/-! _law_text -/
abbrev s__law_text : Stmt := topS 42
theorem sc__law_text : FnScope ["_law_design", "_law_rate_here"] ["_law_design"] (defScope s__law_text) := ⟨rfl, rfl, rfl, by decide +kernel, rfl, by decide +kernel, by decide +kernel⟩
theorem D1__law_text {P : Program} {w : World} {K : PySem.W.Frag} {mg : Str → Option Value} {base : Heap} (T : Tx K mg) (k : Nat) (h__law_text : FD P w K mg base (DF w) (0 + k) "_law_text" 1 (F__law_text k)) : FDK P w K mg base (DF w) (0 + k + 1) "_law_text" 1 (F__law_text (k + 1)) [] := fdk_to T.d__law_text sc__law_text rfl fun f => let hk_ : 0 + k ≤ 0 + k := Nat.le_refl _;
    (s_cons (d_if (t_eq (d_sub' (d_var 0) d_int) d_str) (s_one (d_ret (d_add d_str (d_sub' (d_var 0) d_int)))) s_nil) (s_cons (d_if (t_eq (d_sub' (d_var 0) d_int) d_str) (s_cons (d_set 1 (d_shr (d_add (d_add (d_strI T.n_str (d_sub' (d_sub' (d_var 0) d_int) d_int)) d_str) (d_strI T.n_str (d_sub' (d_sub' (d_var 0) d_int) d_int))))) (s_one (d_ret (d_add (d_add (d_add (d_add (d_add (d_add d_str (d_call h__law_text (a_cons (d_sub' (d_var 0) d_int) a_nil) hk_)) d_str) (d_sub' (d_var 0) d_int)) d_str) (d_var 1)) d_str)))) s_nil) (s_one (d_ret (d_add (d_add (d_add (d_add (d_add (d_sub' (d_var 0) d_int) d_str) (d_call h__law_text (a_cons (d_sub' (d_var 0) d_int) a_nil) hk_)) d_str) (d_call h__law_text (a_cons (d_sub' (d_var 0) d_int) a_nil) hk_)) d_str)))))
theorem D0__law_text {P : Program} {w : World} {K : PySem.W.Frag} {mg : Str → Option Value} {base : Heap} (T : Tx K mg) : ∀ k : Nat, FD P w K mg base (DF w) (0 + k) "_law_text" 1 (F__law_text k)
  | 0 => fd_none T.d__law_text.one 0 rfl
  | k + 1 => let h := D0__law_text (P := P) (w := w) (K := K) (mg := mg) (base := base) T k; (D1__law_text (P := P) (w := w) (K := K) (mg := mg) (base := base) T k h).fd
theorem D__law_text {P : Program} {w : World} {K : PySem.W.Frag} {mg : Str → Option Value} {base : Heap} (T : Tx K mg) : FDK P w K mg base (DF w) 30 "_law_text" 1 (F__law_text fu__law_text) [] := D1__law_text (P := P) (w := w) (K := K) (mg := mg) (base := base) T 29 (D0__law_text (P := P) (w := w) (K := K) (mg := mg) (base := base) T 29)
/-! _law_deck -/
abbrev s__law_deck : Stmt := topS 32
theorem sc__law_deck : FnScope ["_law_script", "_law_cells", "_law_number"] ["_law_script"] (defScope s__law_deck) := ⟨rfl, rfl, rfl, by decide +kernel, rfl, by decide +kernel, by decide +kernel⟩
theorem D__law_deck {P : Program} {w : World} {K : PySem.W.Frag} {mg : Str → Option Value} {base : Heap} (T : Tx K mg) : ∃ f fd, mg "_law_deck" = some (.ref f) ∧ PySem.W.keepIn K (.ref f) = true ∧ Binds K fd ["_law_script"] [] ∧ DZ.FnG P w K mg base CX0 1 f fd ["_law_script"] (spDeck K) := by
  obtain ⟨f, fd, F, hm, hb⟩ := T.d__law_deck
  exact ⟨f, fd, hm, F.kp, hb, deck_of (m1 := dk1) (f1 := dk2) (f2 := dk3) F sc__law_deck rfl (fun ns => (d_setLc 1 [("_law_number", 2)] (i_scr 0) (g_name 2) t_nil (d_abs T.n_abs (d_var 2)) (ok := fun _ => by kernel_rfl))) (fun ns => (d_lc [("_law_number", 2)] (i_seq (d_var 1)) (g_name 2) (t_one (t_ord oGe (d_var 2) (d_pow d_int d_int))) (d_var 2) (ok := fun _ => by kernel_rfl))) (fun ns => (d_add (d_var 1) (d_lst (a_cons (d_add (d_len T.n_len (d_var 1)) d_int) a_nil)))) (fun _ => rfl) (fun _ => rfl) deck_good⟩
noncomputable def L_law_0 : M Dk Fl := (mSeq (mSet 3 (mCall F__law_scheme (mCons (mVar 1) mNil))) (mSeq (mSet 4 (mCall F__law_plan (mCons (mVar 1) (mCons (mVar 3) mNil)))) (mSeq (mPar 5 6 (mUn opRepr (mLst (mCons (mVar 3) (mCons (mVar 4) mNil)))) (mCall (F__law_text fu__law_text) (mCons (mVar 4) mNil))) (mSeq (mIf (mTest (mOp opNe (mUn opRepr (mLst (mCons (mCall (F_plan_text fu_plan_text) (mCons (mVar 4) mNil)) (mCons (mCallK [0] (F_plan_text fu_plan_text) (mCons (mVar 4) mNil)) mNil)))) (mUn opRepr (mLst (mCons (mVar 6) (mCons (mVar 6) mNil)))))) (mRet (mC (.bl false))) mNext) (mSeq (mIf (mTest (mOp opNe (mUn opRepr (mLst (mCons (mCall F_read_plan (mCons (mVar 3) (mCons (mVar 6) mNil))) (mCons (mCallK [1, 0] F_read_plan (mCons (mVar 6) (mCons (mVar 3) mNil))) mNil)))) (mUn opRepr (mLst (mCons (mVar 4) (mCons (mVar 4) mNil)))))) (mRet (mC (.bl false))) mNext) (mIf (mTest (mOp opNe (mUn opRepr (mLst (mCons (mVar 3) (mCons (mVar 4) mNil)))) (mVar 5))) (mRet (mC (.bl false))) mNext))))))
/-! law -/
abbrev s_law : Stmt := topS 44
theorem sc_law : FnScope ["_law_script", "_law_deck_here", "_law_turn", "_law_plot", "_law_design", "_law_held", "_law_due"] ["_law_script"] (defScope s_law) := ⟨rfl, rfl, rfl, by decide +kernel, rfl, by decide +kernel, by decide +kernel⟩
noncomputable def B_law : M Dk Fl := (mSeq (mFor (srcRange1 (mC (.int 14))) (.nm 2) L_law_0) (mRet (mC (.bl true))))
def lawSlots : Sl := (List.replicate 7 none).set 1 (some (.sh (.obj 0)))
theorem D_law (good : ∀ ns : List Int, ns.length ≤ 63 → ∃ st' g', B_law lawSlots (deck0 ns) = some (.rt (.bl true), st', g')) {P : Program} {w : World} {K : PySem.W.Frag} {mg : Str → Option Value} {base : Heap} (T : Tx K mg) {f : Addr} {fd : FuncData} (F : Fun K "law" "law" s_law f fd) : DZ.FnG P w K mg base CX0 34 f fd ["_law_script"] (spTrue K) := by
  obtain ⟨fk, fdk, hmk, hkp, hbd, D0⟩ := D__law_deck (P := P) (w := w) (base := base) T
  exact law_of (b := B_law) (i := 1) F sc_law rfl D0 hmk hkp hbd (
    (s_cons (d_for (i_range1 d_int (hm := T.n_range)) (g_name 2) (s_cons (d_set 3 (d_call (D__law_scheme (P := P) (w := w) (K := K) (mg := mg) (base := base) T).fd (a_cons (d_var 1) a_nil) (Nat.le_of_ble_eq_true rfl))) (s_cons (d_set 4 (d_call (D__law_plan (P := P) (w := w) (K := K) (mg := mg) (base := base) T).fd (a_cons (d_var 1) (a_cons (d_var 3) a_nil)) (Nat.le_of_ble_eq_true rfl))) (s_cons (d_par 5 6 (d_repr T.n_repr (d_lst (a_cons (d_var 3) (a_cons (d_var 4) a_nil)))) (d_call (D__law_text (P := P) (w := w) (K := K) (mg := mg) (base := base) T).fd (a_cons (d_var 4) a_nil) (Nat.le_of_ble_eq_true rfl))) (s_cons (d_if (t_ne (d_repr T.n_repr (d_lst (a_cons (d_call (D_plan_text (P := P) (w := w) (K := K) (mg := mg) (base := base) T).fd (a_cons (d_var 4) a_nil) (Nat.le_of_ble_eq_true rfl)) (a_cons (d_callK ["plan"] [0] (D_plan_text (P := P) (w := w) (K := K) (mg := mg) (base := base) T) (k_cons (d_var 4) k_nil) (Nat.le_of_ble_eq_true rfl)) a_nil)))) (d_repr T.n_repr (d_lst (a_cons (d_var 6) (a_cons (d_var 6) a_nil))))) (s_one (d_ret d_bl)) s_nil) (s_cons (d_if (t_ne (d_repr T.n_repr (d_lst (a_cons (d_call (D_read_plan (P := P) (w := w) (K := K) (mg := mg) (base := base) T).fd (a_cons (d_var 3) (a_cons (d_var 6) a_nil)) (Nat.le_of_ble_eq_true rfl)) (a_cons (d_callK ["text", "scheme"] [1, 0] (D_read_plan (P := P) (w := w) (K := K) (mg := mg) (base := base) T) (k_cons (d_var 6) (k_cons (d_var 3) k_nil)) (Nat.le_of_ble_eq_true rfl)) a_nil)))) (d_repr T.n_repr (d_lst (a_cons (d_var 4) (a_cons (d_var 4) a_nil))))) (s_one (d_ret d_bl)) s_nil) (s_one (d_if (t_ne (d_repr T.n_repr (d_lst (a_cons (d_var 3) (a_cons (d_var 4) a_nil)))) (d_var 5)) (s_one (d_ret d_bl)) s_nil)))))))) (s_one (d_ret d_bl)))) (hgood := good)
/-! the head -/
def fn : List He.DefD := [⟨("is_whole", none), "is_whole", "is_whole", defArgs s_is_whole, defBody s_is_whole, defScope s_is_whole, [], []⟩,
  ⟨("common", none), "common", "common", defArgs s_common, defBody s_common, defScope s_common, [], []⟩,
  ⟨("columns_in", none), "columns_in", "columns_in", defArgs s_columns_in, defBody s_columns_in, defScope s_columns_in, [], []⟩,
  ⟨("tables_in", none), "tables_in", "tables_in", defArgs s_tables_in, defBody s_tables_in, defScope s_tables_in, [], []⟩,
  ⟨("is_rate", none), "is_rate", "is_rate", defArgs s_is_rate, defBody s_is_rate, defScope s_is_rate, [], []⟩,
  ⟨("columns_of", none), "columns_of", "columns_of", defArgs s_columns_of, defBody s_columns_of, defScope s_columns_of, [], []⟩,
  ⟨("united", none), "united", "united", defArgs s_united, defBody s_united, defScope s_united, [], []⟩,
  ⟨("rate_text", none), "rate_text", "rate_text", defArgs s_rate_text, defBody s_rate_text, defScope s_rate_text, [], []⟩,
  ⟨("plan_text", none), "plan_text", "plan_text", defArgs s_plan_text, defBody s_plan_text, defScope s_plan_text, [], []⟩,
  ⟨("passed", none), "passed", "passed", defArgs s_passed, defBody s_passed, defScope s_passed, [], []⟩,
  ⟨("read_name", none), "read_name", "read_name", defArgs s_read_name, defBody s_read_name, defScope s_read_name, [], []⟩,
  ⟨("read_number", none), "read_number", "read_number", defArgs s_read_number, defBody s_read_number, defScope s_read_number, [], []⟩,
  ⟨("word_at", none), "word_at", "word_at", defArgs s_word_at, defBody s_word_at, defScope s_word_at, [], []⟩,
  ⟨("read_some", none), "read_some", "read_some", defArgs s_read_some, defBody s_read_some, defScope s_read_some, [], []⟩,
  ⟨("looked_over", none), "looked_over", "looked_over", defArgs s_looked_over, defBody s_looked_over, defScope s_looked_over, [], []⟩,
  ⟨("read_plan", none), "read_plan", "read_plan", defArgs s_read_plan, defBody s_read_plan, defScope s_read_plan, [], []⟩,
  ⟨("_law_deck", none), "_law_deck", "_law_deck", defArgs s__law_deck, defBody s__law_deck, defScope s__law_deck, [], []⟩,
  ⟨("_law_next", none), "_law_next", "_law_next", defArgs s__law_next, defBody s__law_next, defScope s__law_next, [], []⟩,
  ⟨("_law_one", none), "_law_one", "_law_one", defArgs s__law_one, defBody s__law_one, defScope s__law_one, [], []⟩,
  ⟨("_law_dials", none), "_law_dials", "_law_dials", defArgs s__law_dials, defBody s__law_dials, defScope s__law_dials, [], []⟩,
  ⟨("_law_scheme", none), "_law_scheme", "_law_scheme", defArgs s__law_scheme, defBody s__law_scheme, defScope s__law_scheme, [], []⟩,
  ⟨("_law_lowest", none), "_law_lowest", "_law_lowest", defArgs s__law_lowest, defBody s__law_lowest, defScope s__law_lowest, [], []⟩,
  ⟨("_law_rate", none), "_law_rate", "_law_rate", defArgs s__law_rate, defBody s__law_rate, defScope s__law_rate, [], []⟩,
  ⟨("_law_columns", none), "_law_columns", "_law_columns", defArgs s__law_columns, defBody s__law_columns, defScope s__law_columns, [], []⟩,
  ⟨("_law_plan_of", none), "_law_plan_of", "_law_plan_of", defArgs s__law_plan_of, defBody s__law_plan_of, defScope s__law_plan_of, [], []⟩,
  ⟨("_law_any_frame", none), "_law_any_frame", "_law_any_frame", defArgs s__law_any_frame, defBody s__law_any_frame, defScope s__law_any_frame, [], []⟩,
  ⟨("_law_plan", none), "_law_plan", "_law_plan", defArgs s__law_plan, defBody s__law_plan, defScope s__law_plan, [], []⟩,
  ⟨("_law_text", none), "_law_text", "_law_text", defArgs s__law_text, defBody s__law_text, defScope s__law_text, [], []⟩,
  ⟨("law", none), "law", "law", defArgs s_law, defBody s_law, defScope s_law, [], []⟩]
def tb : List (Str × List D) := []
def fa : List He.Fa := ([.glo "is_whole", .glo "common", .glo "columns_in", .glo "tables_in", .glo "is_rate", .glo "columns_of", .glo "united", .glo "rate_text", .glo "plan_text", .glo "passed", .glo "read_name", .glo "read_number", .glo "word_at", .glo "read_some", .glo "looked_over", .glo "read_plan", .glo "_law_deck", .glo "_law_next", .glo "_law_one", .glo "_law_dials", .glo "_law_scheme", .glo "_law_lowest", .glo "_law_rate", .glo "_law_columns", .glo "_law_plan_of", .glo "_law_any_frame", .glo "_law_plan", .glo "_law_text", .glo "law", .free "abs"] : List He.Fa) ++ ([.free "bool", .free "dict", .free "int", .free "isinstance", .free "len", .free "range", .free "repr", .free "set", .free "sorted", .free "str", .free "tuple", .str "BETWEEN" ", ", .str "DIGITS" "0123456789", .str "LETTERS" "abcdefghijklmnopqrstuvwxyz", .int "MOST_DIGITS" 4, .int "MOST_LETTERS" 6, .int "MOST_RATE" 1000, .int "MOST_WORDS" 12] : List He.Fa)
abbrev R : PySem.W.OpenRow := PySem.W.OpenLaw.row PySem.Challenge.rw_keyrates_k54_texts_of_plans
abbrev hk : PySem.W.Hook := hookE 4 fa fn tb
def ob (s : PySem.W.SharedT) : He.AlD × Bool := obsEG 4 fa fn tb (HandSHeadRun.getT s)
theorem ob_eq (s : PySem.W.SharedT) : ob s = hk.obs s.abs := obsEG_eq (HandSHeadRun.getT_eq s)
def names : List PySem.Str := (["RateError", "BadText", "BadPlan", "is_whole", "common", "LETTERS", "MOST_LETTERS", "columns_in", "tables_in", "MOST_WORDS", "MOST_RATE", "is_rate", "columns_of", "united", "DIGITS", "MOST_DIGITS", "BETWEEN", "rate_text", "plan_text", "passed", "read_name", "read_number", "word_at", "read_some", "looked_over", "read_plan", "_law_deck", "_law_next", "_law_one", "_law_dials"] : List PySem.Str) ++ (["_law_scheme", "_law_rate", "_law_lowest", "_law_columns", "_law_plan_of", "_law_plan", "_law_text", "_law_any_frame"] : List PySem.Str)
theorem run (w : World) : HandSHeadRun.RunEq R (PySem.W.view R.prog [44]) hk ob 4000 names w := by
  intro os
  kernel_rfl
theorem facts {K : PySem.W.Frag} {h : Heap} {mg : Str → Option Value} (X : K.In h) (G : h.Ns mainGlobals mg) (ce : SaysE fa fn tb K) : Tx K mg :=
  let c := ce.d
  {
    d_is_whole := by
      obtain ⟨fd, F⟩ := c.def_ 0 (d := ⟨("is_whole", none), "is_whole", "is_whole", defArgs s_is_whole, defBody s_is_whole, defScope s_is_whole, [], []⟩) rfl
      exact ⟨_, fd, funOf F, He.glo_ok X G (c.fact 0 (f := .glo "is_whole") rfl), FunD.bindsN (ps := ["value", "low", "high"]) F fun _ _ _ _ _ _ us hl => match us, hl with | [_, _, _], _ => rfl, fun _ h => nomatch h⟩
    d_common := by
      obtain ⟨fd, F⟩ := c.def_ 1 (d := ⟨("common", none), "common", "common", defArgs s_common, defBody s_common, defScope s_common, [], []⟩) rfl
      exact ⟨_, fd, funOf F, He.glo_ok X G (c.fact 1 (f := .glo "common") rfl), FunD.bindsN (ps := ["one", "other"]) F fun _ _ _ _ _ _ us hl => match us, hl with | [_, _], _ => rfl, fun _ h => nomatch h⟩
    d_columns_in := by
      obtain ⟨fd, F⟩ := c.def_ 2 (d := ⟨("columns_in", none), "columns_in", "columns_in", defArgs s_columns_in, defBody s_columns_in, defScope s_columns_in, [], []⟩) rfl
      exact ⟨_, fd, funOf F, He.glo_ok X G (c.fact 2 (f := .glo "columns_in") rfl), FunD.bindsN (ps := ["scheme", "table"]) F fun _ _ _ _ _ _ us hl => match us, hl with | [_, _], _ => rfl, fun _ h => nomatch h⟩
    d_tables_in := by
      obtain ⟨fd, F⟩ := c.def_ 3 (d := ⟨("tables_in", none), "tables_in", "tables_in", defArgs s_tables_in, defBody s_tables_in, defScope s_tables_in, [], []⟩) rfl
      exact ⟨_, fd, funOf F, He.glo_ok X G (c.fact 3 (f := .glo "tables_in") rfl), FunD.bindsN (ps := ["scheme"]) F fun _ _ _ _ _ _ us hl => match us, hl with | [_], _ => rfl, fun _ h => nomatch h⟩
    d_is_rate := by
      obtain ⟨fd, F⟩ := c.def_ 4 (d := ⟨("is_rate", none), "is_rate", "is_rate", defArgs s_is_rate, defBody s_is_rate, defScope s_is_rate, [], []⟩) rfl
      exact ⟨_, fd, funOf F, He.glo_ok X G (c.fact 4 (f := .glo "is_rate") rfl), FunD.bindsN (ps := ["value"]) F fun _ _ _ _ _ _ us hl => match us, hl with | [_], _ => rfl, fun _ h => nomatch h⟩
    d_columns_of := by
      obtain ⟨fd, F⟩ := c.def_ 5 (d := ⟨("columns_of", none), "columns_of", "columns_of", defArgs s_columns_of, defBody s_columns_of, defScope s_columns_of, [], []⟩) rfl
      exact ⟨_, fd, funOf F, He.glo_ok X G (c.fact 5 (f := .glo "columns_of") rfl), FunD.bindsN (ps := ["scheme", "frame"]) F fun _ _ _ _ _ _ us hl => match us, hl with | [_, _], _ => rfl, fun _ h => nomatch h⟩
    d_united := by
      obtain ⟨fd, F⟩ := c.def_ 6 (d := ⟨("united", none), "united", "united", defArgs s_united, defBody s_united, defScope s_united, [], []⟩) rfl
      exact ⟨_, fd, funOf F, He.glo_ok X G (c.fact 6 (f := .glo "united") rfl), FunD.bindsN (ps := ["frame", "other"]) F fun _ _ _ _ _ _ us hl => match us, hl with | [_, _], _ => rfl, fun _ h => nomatch h⟩
    d_rate_text := by
      obtain ⟨fd, F⟩ := c.def_ 7 (d := ⟨("rate_text", none), "rate_text", "rate_text", defArgs s_rate_text, defBody s_rate_text, defScope s_rate_text, [], []⟩) rfl
      exact ⟨_, fd, funOf F, He.glo_ok X G (c.fact 7 (f := .glo "rate_text") rfl), FunD.bindsN (ps := ["rate"]) F fun _ _ _ _ _ _ us hl => match us, hl with | [_], _ => rfl, fun _ h => nomatch h⟩
    d_plan_text := by
      obtain ⟨fd, F⟩ := c.def_ 8 (d := ⟨("plan_text", none), "plan_text", "plan_text", defArgs s_plan_text, defBody s_plan_text, defScope s_plan_text, [], []⟩) rfl
      exact ⟨_, fd, funOf F, He.glo_ok X G (c.fact 8 (f := .glo "plan_text") rfl), FunD.bindsN (ps := ["plan"]) F fun _ _ _ _ _ _ us hl => match us, hl with | [_], _ => rfl, fun q hq => by
        simp only [List.mem_cons, List.not_mem_nil, or_false] at hq
        rcases hq with rfl
        · exact kwB_of F fun _ _ _ _ _ _ ws hl => match ws, hl with | [_], _ => rfl⟩
    d_passed := by
      obtain ⟨fd, F⟩ := c.def_ 9 (d := ⟨("passed", none), "passed", "passed", defArgs s_passed, defBody s_passed, defScope s_passed, [], []⟩) rfl
      exact ⟨_, fd, funOf F, He.glo_ok X G (c.fact 9 (f := .glo "passed") rfl), FunD.bindsN (ps := ["text", "at", "words"]) F fun _ _ _ _ _ _ us hl => match us, hl with | [_, _, _], _ => rfl, fun _ h => nomatch h⟩
    d_read_name := by
      obtain ⟨fd, F⟩ := c.def_ 10 (d := ⟨("read_name", none), "read_name", "read_name", defArgs s_read_name, defBody s_read_name, defScope s_read_name, [], []⟩) rfl
      exact ⟨_, fd, funOf F, He.glo_ok X G (c.fact 10 (f := .glo "read_name") rfl), FunD.bindsN (ps := ["text", "at"]) F fun _ _ _ _ _ _ us hl => match us, hl with | [_, _], _ => rfl, fun _ h => nomatch h⟩
    d_read_number := by
      obtain ⟨fd, F⟩ := c.def_ 11 (d := ⟨("read_number", none), "read_number", "read_number", defArgs s_read_number, defBody s_read_number, defScope s_read_number, [], []⟩) rfl
      exact ⟨_, fd, funOf F, He.glo_ok X G (c.fact 11 (f := .glo "read_number") rfl), FunD.bindsN (ps := ["text", "at"]) F fun _ _ _ _ _ _ us hl => match us, hl with | [_, _], _ => rfl, fun _ h => nomatch h⟩
    d_word_at := by
      obtain ⟨fd, F⟩ := c.def_ 12 (d := ⟨("word_at", none), "word_at", "word_at", defArgs s_word_at, defBody s_word_at, defScope s_word_at, [], []⟩) rfl
      exact ⟨_, fd, funOf F, He.glo_ok X G (c.fact 12 (f := .glo "word_at") rfl), FunD.bindsN (ps := ["text", "at"]) F fun _ _ _ _ _ _ us hl => match us, hl with | [_, _], _ => rfl, fun _ h => nomatch h⟩
    d_read_some := by
      obtain ⟨fd, F⟩ := c.def_ 13 (d := ⟨("read_some", none), "read_some", "read_some", defArgs s_read_some, defBody s_read_some, defScope s_read_some, [], []⟩) rfl
      exact ⟨_, fd, funOf F, He.glo_ok X G (c.fact 13 (f := .glo "read_some") rfl), FunD.bindsN (ps := ["text", "at"]) F fun _ _ _ _ _ _ us hl => match us, hl with | [_, _], _ => rfl, fun _ h => nomatch h⟩
    d_looked_over := by
      obtain ⟨fd, F⟩ := c.def_ 14 (d := ⟨("looked_over", none), "looked_over", "looked_over", defArgs s_looked_over, defBody s_looked_over, defScope s_looked_over, [], []⟩) rfl
      exact ⟨_, fd, funOf F, He.glo_ok X G (c.fact 14 (f := .glo "looked_over") rfl), FunD.bindsN (ps := ["scheme", "plan", "number"]) F fun _ _ _ _ _ _ us hl => match us, hl with | [_, _, _], _ => rfl, fun _ h => nomatch h⟩
    d_read_plan := by
      obtain ⟨fd, F⟩ := c.def_ 15 (d := ⟨("read_plan", none), "read_plan", "read_plan", defArgs s_read_plan, defBody s_read_plan, defScope s_read_plan, [], []⟩) rfl
      exact ⟨_, fd, funOf F, He.glo_ok X G (c.fact 15 (f := .glo "read_plan") rfl), FunD.bindsN (ps := ["scheme", "text"]) F fun _ _ _ _ _ _ us hl => match us, hl with | [_, _], _ => rfl, fun q hq => by
        simp only [List.mem_cons, List.not_mem_nil, or_false] at hq
        rcases hq with rfl
        · exact kwB_of F fun _ _ _ _ _ _ ws hl => match ws, hl with | [_, _], _ => rfl⟩
    d__law_deck := by
      obtain ⟨fd, F⟩ := c.def_ 16 (d := ⟨("_law_deck", none), "_law_deck", "_law_deck", defArgs s__law_deck, defBody s__law_deck, defScope s__law_deck, [], []⟩) rfl
      exact ⟨_, fd, funOf F, He.glo_ok X G (c.fact 16 (f := .glo "_law_deck") rfl), FunD.bindsN (ps := ["_law_script"]) F fun _ _ _ _ _ _ us hl => match us, hl with | [_], _ => rfl⟩
    d__law_next := by
      obtain ⟨fd, F⟩ := c.def_ 17 (d := ⟨("_law_next", none), "_law_next", "_law_next", defArgs s__law_next, defBody s__law_next, defScope s__law_next, [], []⟩) rfl
      exact ⟨_, fd, funOf F, He.glo_ok X G (c.fact 17 (f := .glo "_law_next") rfl), FunD.bindsN (ps := ["_law_deck_here", "_law_many"]) F fun _ _ _ _ _ _ us hl => match us, hl with | [_, _], _ => rfl, fun _ h => nomatch h⟩
    d__law_one := by
      obtain ⟨fd, F⟩ := c.def_ 18 (d := ⟨("_law_one", none), "_law_one", "_law_one", defArgs s__law_one, defBody s__law_one, defScope s__law_one, [], []⟩) rfl
      exact ⟨_, fd, funOf F, He.glo_ok X G (c.fact 18 (f := .glo "_law_one") rfl), FunD.bindsN (ps := ["_law_deck_here", "_law_items"]) F fun _ _ _ _ _ _ us hl => match us, hl with | [_, _], _ => rfl, fun _ h => nomatch h⟩
    d__law_dials := by
      obtain ⟨fd, F⟩ := c.def_ 19 (d := ⟨("_law_dials", none), "_law_dials", "_law_dials", defArgs s__law_dials, defBody s__law_dials, defScope s__law_dials, [], []⟩) rfl
      exact ⟨_, fd, funOf F, He.glo_ok X G (c.fact 19 (f := .glo "_law_dials") rfl), FunD.bindsN (ps := ["_law_deck_here"]) F fun _ _ _ _ _ _ us hl => match us, hl with | [_], _ => rfl, fun _ h => nomatch h⟩
    d__law_scheme := by
      obtain ⟨fd, F⟩ := c.def_ 20 (d := ⟨("_law_scheme", none), "_law_scheme", "_law_scheme", defArgs s__law_scheme, defBody s__law_scheme, defScope s__law_scheme, [], []⟩) rfl
      exact ⟨_, fd, funOf F, He.glo_ok X G (c.fact 20 (f := .glo "_law_scheme") rfl), FunD.bindsN (ps := ["_law_deck_here"]) F fun _ _ _ _ _ _ us hl => match us, hl with | [_], _ => rfl, fun _ h => nomatch h⟩
    d__law_lowest := by
      obtain ⟨fd, F⟩ := c.def_ 21 (d := ⟨("_law_lowest", none), "_law_lowest", "_law_lowest", defArgs s__law_lowest, defBody s__law_lowest, defScope s__law_lowest, [], []⟩) rfl
      exact ⟨_, fd, funOf F, He.glo_ok X G (c.fact 21 (f := .glo "_law_lowest") rfl), FunD.bindsN (ps := ["_law_top", "_law_bottom"]) F fun _ _ _ _ _ _ us hl => match us, hl with | [_, _], _ => rfl, fun _ h => nomatch h⟩
    d__law_rate := by
      obtain ⟨fd, F⟩ := c.def_ 22 (d := ⟨("_law_rate", none), "_law_rate", "_law_rate", defArgs s__law_rate, defBody s__law_rate, defScope s__law_rate, [], []⟩) rfl
      exact ⟨_, fd, funOf F, He.glo_ok X G (c.fact 22 (f := .glo "_law_rate") rfl), FunD.bindsN (ps := ["_law_deck_here"]) F fun _ _ _ _ _ _ us hl => match us, hl with | [_], _ => rfl, fun _ h => nomatch h⟩
    d__law_columns := by
      obtain ⟨fd, F⟩ := c.def_ 23 (d := ⟨("_law_columns", none), "_law_columns", "_law_columns", defArgs s__law_columns, defBody s__law_columns, defScope s__law_columns, [], []⟩) rfl
      exact ⟨_, fd, funOf F, He.glo_ok X G (c.fact 23 (f := .glo "_law_columns") rfl), FunD.bindsN (ps := ["_law_plot", "_law_frame"]) F fun _ _ _ _ _ _ us hl => match us, hl with | [_, _], _ => rfl, fun _ h => nomatch h⟩
    d__law_plan_of := by
      obtain ⟨fd, F⟩ := c.def_ 24 (d := ⟨("_law_plan_of", none), "_law_plan_of", "_law_plan_of", defArgs s__law_plan_of, defBody s__law_plan_of, defScope s__law_plan_of, [], []⟩) rfl
      exact ⟨_, fd, funOf F, He.glo_ok X G (c.fact 24 (f := .glo "_law_plan_of") rfl), FunD.bindsN (ps := ["_law_deck_here", "_law_plot", "_law_frame", "_law_room"]) F fun _ _ _ _ _ _ us hl => match us, hl with | [_, _, _, _], _ => rfl, fun _ h => nomatch h⟩
    d__law_any_frame := by
      obtain ⟨fd, F⟩ := c.def_ 25 (d := ⟨("_law_any_frame", none), "_law_any_frame", "_law_any_frame", defArgs s__law_any_frame, defBody s__law_any_frame, defScope s__law_any_frame, [], []⟩) rfl
      exact ⟨_, fd, funOf F, He.glo_ok X G (c.fact 25 (f := .glo "_law_any_frame") rfl), FunD.bindsN (ps := ["_law_deck_here", "_law_plot"]) F fun _ _ _ _ _ _ us hl => match us, hl with | [_, _], _ => rfl, fun _ h => nomatch h⟩
    d__law_plan := by
      obtain ⟨fd, F⟩ := c.def_ 26 (d := ⟨("_law_plan", none), "_law_plan", "_law_plan", defArgs s__law_plan, defBody s__law_plan, defScope s__law_plan, [], []⟩) rfl
      exact ⟨_, fd, funOf F, He.glo_ok X G (c.fact 26 (f := .glo "_law_plan") rfl), FunD.bindsN (ps := ["_law_deck_here", "_law_plot"]) F fun _ _ _ _ _ _ us hl => match us, hl with | [_, _], _ => rfl, fun _ h => nomatch h⟩
    d__law_text := by
      obtain ⟨fd, F⟩ := c.def_ 27 (d := ⟨("_law_text", none), "_law_text", "_law_text", defArgs s__law_text, defBody s__law_text, defScope s__law_text, [], []⟩) rfl
      exact ⟨_, fd, funOf F, He.glo_ok X G (c.fact 27 (f := .glo "_law_text") rfl), FunD.bindsN (ps := ["_law_design"]) F fun _ _ _ _ _ _ us hl => match us, hl with | [_], _ => rfl, fun _ h => nomatch h⟩
    n_abs := He.free_ok X G (c.fact 29 (f := .free "abs") rfl)
    n_bool := He.free_ok X G (c.fact 30 (f := .free "bool") rfl)
    n_dict := He.free_ok X G (c.fact 31 (f := .free "dict") rfl)
    n_int := He.free_ok X G (c.fact 32 (f := .free "int") rfl)
    n_isinstance := He.free_ok X G (c.fact 33 (f := .free "isinstance") rfl)
    n_len := He.free_ok X G (c.fact 34 (f := .free "len") rfl)
    n_range := He.free_ok X G (c.fact 35 (f := .free "range") rfl)
    n_repr := He.free_ok X G (c.fact 36 (f := .free "repr") rfl)
    n_set := He.free_ok X G (c.fact 37 (f := .free "set") rfl)
    n_sorted := He.free_ok X G (c.fact 38 (f := .free "sorted") rfl)
    n_str := He.free_ok X G (c.fact 39 (f := .free "str") rfl)
    n_tuple := He.free_ok X G (c.fact 40 (f := .free "tuple") rfl)
    c_BETWEEN := by
      obtain ⟨t, h⟩ := He.str_ok X G (c.fact 41 (f := .str "BETWEEN" ", ") rfl)
      exact GC.str h
    c_DIGITS := by
      obtain ⟨t, h⟩ := He.str_ok X G (c.fact 42 (f := .str "DIGITS" "0123456789") rfl)
      exact GC.str h
    c_LETTERS := by
      obtain ⟨t, h⟩ := He.str_ok X G (c.fact 43 (f := .str "LETTERS" "abcdefghijklmnopqrstuvwxyz") rfl)
      exact GC.str h
    c_MOST_DIGITS := by
      obtain ⟨t, h⟩ := He.int_ok X G (c.fact 44 (f := .int "MOST_DIGITS" 4) rfl)
      exact GC.int h
    c_MOST_LETTERS := by
      obtain ⟨t, h⟩ := He.int_ok X G (c.fact 45 (f := .int "MOST_LETTERS" 6) rfl)
      exact GC.int h
    c_MOST_RATE := by
      obtain ⟨t, h⟩ := He.int_ok X G (c.fact 46 (f := .int "MOST_RATE" 1000) rfl)
      exact GC.int h
    c_MOST_WORDS := by
      obtain ⟨t, h⟩ := He.int_ok X G (c.fact 47 (f := .int "MOST_WORDS" 12) rfl)
      exact GC.int h
  }
theorem holds (good : ∀ ns : List Int, ns.length ≤ 63 → ∃ st' g', B_law lawSlots (deck0 ns) = some (.rt (.bl true), st', g')) : PySem.Challenge.rw_keyrates_k54_texts_of_plans.Holds := by
  w_on; o_law
  refine HandSHeadRun.head_any (r := PySem.W.OpenLaw.row PySem.Challenge.rw_keyrates_k54_texts_of_plans) (q := PySem.W.view (PySem.W.OpenLaw.row PySem.Challenge.rw_keyrates_k54_texts_of_plans).prog [44]) (H := hk) (ob := ob) (M := 4000) (loose := names) (d := HandSHeadRun.topDef (PySem.W.OpenLaw.row PySem.Challenge.rw_keyrates_k54_texts_of_plans).prog 44) (kwd := []) ob_eq
    (by kernel_rfl) (fun s => by kernel_rfl) run (by kernel_rfl) (by kernel_rfl) (by kernel_rfl) (by rfl) (by first | assumption | decide +kernel) (by decide +kernel) ⟨rfl, rfl, rfl, rfl, rfl, by decide +kernel⟩ ?hw ?hc
  case hw => w_witness2
  case hc =>
    refine walkGE (l := PySem.Challenge.rw_keyrates_k54_texts_of_plans) (n := 63) (k := 34) (x := "_law_script") rfl (by decide) (by kernel_rfl) ⟨rfl, by decide, by decide⟩ ?F
    intro w mg a h Y G hmg0
    obtain ⟨K, KX, ce⟩ := Y
    have c := ce.d
    have e : (HandSHeadRun.topDef (PySem.W.OpenLaw.row PySem.Challenge.rw_keyrates_k54_texts_of_plans).prog 44).name = ("law" : PySem.Str) := by kernel_rfl
    rw [e] at hmg0
    obtain ⟨fd, F⟩ := c.def_ 28 (d := ⟨("law", none), "law", "law", defArgs s_law, defBody s_law, defScope s_law, [], []⟩) rfl
    have e2 := hmg0.symm.trans (He.glo_ok KX G (c.fact 28 (f := .glo "law") rfl))
    cases e2
    have b := FunD.bindsA (ps := ["_law_script"]) F fun _ _ _ _ _ _ us hl => match us, hl with | [_], _ => rfl
    exact ⟨K, fd, spTrue K, KX, fun s v => b s [v] rfl, fun H a ns hl _ hS => ⟨a, ns, rfl, hS, hl, fun _ => rfl⟩, fun base _ _ => D_law good (facts KX G ce) (funOf F)⟩
end K54
namespace DL
open PySem PySem.Spec PyProof.Rows L2
/-! ### texts as lists of signs -/
abbrev cs (x : Str) : List Nat := x.cps.toList
def mkS (l : List Nat) : Str := ⟨l.toArray⟩
theorem cs_mk (l : List Nat) : cs (mkS l) = l := rfl
theorem cs_len (x : Str) : x.length = (cs x).length := by simp [Str.length]
theorem cs_ext {x y : Str} (h : cs x = cs y) : x = y := TL.ext_tl h
theorem cs_app (x y : Str) : cs (x ++ y) = cs x ++ cs y := TL.tl_append x y
theorem mk_cs (x : Str) : mkS (cs x) = x := cs_ext rfl
abbrev chS (c : Nat) : Str := ⟨#[c]⟩
section
variable {x : Str} {pre mid post : List Nat} {c : Nat} {g : Dk}
theorem chT_at (h : cs x = pre ++ c :: post) (hz : x.length ≤ 10000000) : chT x (pre.length : Int) = some (chS c) := by
  unfold chT
  rw [if_pos (by rw [sizeLine_eq]; omega)]
  obtain ⟨d, e1, e2⟩ := atI_some (l := cs x) (i := (pre.length : Int)) (by omega) (by rw [h]; simp; omega)
  rw [e1]
  rw [h, Int.toNat_natCast, List.getElem?_append_right (Nat.le_refl _), Nat.sub_self] at e2
  simp at e2
  rw [← e2]; rfl
theorem slT_at (h : cs x = pre ++ mid ++ post) (hz : x.length ≤ 10000000) : slT x (some (pre.length : Int)) (some ((pre.length : Int) + (mid.length : Int))) = some (mkS mid) := by
  unfold slT
  rw [if_pos (by rw [sizeLine_eq]; omega)]
  unfold L2.cutS
  have hl : x.length = pre.length + mid.length + post.length := by rw [cs_len, h]; simp only [List.length_append]
  have e1 : HT.sIx x.length 0 (some (pre.length : Int)) = pre.length := by rw [HT.sIx_nat]; omega
  have e2 : HT.sIx x.length x.length (some ((pre.length : Int) + (mid.length : Int))) = pre.length + mid.length := by
    rw [show (pre.length : Int) + (mid.length : Int) = ((pre.length + mid.length : Nat) : Int) by omega, HT.sIx_nat]; omega
  rw [e1, e2]
  show some (mkS (((cs x).drop pre.length).take (pre.length + mid.length - pre.length))) = _
  rw [h, List.append_assoc, List.drop_left, show pre.length + mid.length - pre.length = mid.length by omega, List.take_left]
theorem slT_one (h : cs x = pre ++ c :: post) (hz : x.length ≤ 10000000) : slT x (some (pre.length : Int)) (some ((pre.length : Int) + 1)) = some (chS c) := slT_at (mid := [c]) (post := post) (by rw [h]; simp) hz
theorem lenS_eq (hz : x.length ≤ 10000000) : lenS x = some ((cs x).length : Int) := by
  unfold lenS
  rw [if_pos (by rw [sizeLine_eq]; omega), cs_len]
/-! ### words that must stand at a place -/
noncomputable abbrev passB (x : Str) : Str → Int → TM Int := fun (i4 : Str) (b3 : Int) => (bindT (bindT (bindT (optT (slT x (some b3) (some (b3 + 1)))) fun x6 => bindT (pureT i4) fun y7 => optT (some (!eqB x6 y7))) fun b8 => if b8 = true then failT else (pureT ())) fun v5 => (bindT (pureT (b3 + 1 : Int)) fun v9 => pureT v9))
theorem passed_loop (hz : x.length ≤ 10000000) : ∀ (w pre : List Nat) (post : List Nat), cs x = pre ++ w ++ post →
    forT (passB x) (w.map chS) (pre.length : Int) = pureT ((pre.length : Int) + (w.length : Int))
  | [], pre, post, h => by simp [forT]
  | c :: w, pre, post, h => by
    have e1 := slT_one (x := x) (pre := pre) (c := c) (post := w ++ post) (by rw [h]; simp) hz
    have e2 : eqB (chS c) (chS c) = true := eqB_iff.mpr rfl
    have ih := passed_loop hz w (pre ++ [c]) post (by rw [h]; simp)
    have hb : passB x (chS c) (pre.length : Int) = pureT ((pre.length : Int) + 1) := by
      unfold passB
      simp only [e1, opt_some, bindT_pure, e2, Bool.not_true, Bool.false_eq_true, if_false]
    rw [List.map_cons]
    unfold forT
    rw [hb, bindT_pure]
    rw [show ((pre ++ [c]).length : Int) = (pre.length : Int) + 1 by simp] at ih
    rw [ih]
    congr 1
    simp; omega
theorem c_passed {w : Str} (h : cs x = pre ++ cs w ++ post) (hz : x.length ≤ 10000000) : callT F_passed D.int [D.str x, D.int (pre.length : Int), D.str w] = pureT ((pre.length : Int) + ((cs w).length : Int)) := callT_pure fun g => S_passed _ _ _ (by
  have hw : w.cps.size ≤ 10000000 := by
    have : (cs x).length = pre.length + (cs w).length + post.length := by rw [h]; simp only [List.length_append]
    have h2 := cs_len x
    have h3 := cs_len w
    have : w.cps.size = (cs w).length := by simp
    omega
  unfold T_passed
  have e : chsT w = some ((cs w).map chS) := by unfold chsT; rw [if_pos (by rw [sizeLine_eq]; omega)]
  rw [e, opt_some, bindT_pure]
  show bindT (forT (passB x) ((cs w).map chS) (pre.length : Int)) _ g = _
  rw [passed_loop hz (cs w) pre post h, bindT_pure]
  rfl)
theorem bind_run {α β : Type} {m : TM α} {k : α → TM β} {g g1 : Dk} {a : α} (h : m g = some (a, g1)) : bindT m k g = k a g1 := by
  unfold bindT
  rw [h]
  rfl
/-! ### names, numbers -/
theorem scan {c : Int → TM Bool} {b : Int → TM Int} (hb : ∀ i, b i = pureT (i + 1)) : ∀ (m : Nat) (a : Int), (∀ k : Nat, k < m → c (a + k) = pureT true) → c (a + m) = pureT false → ∀ g : Dk, whileT c b a g = some (a + m, g)
  | 0, a, _, h, g => by
    have h' : c a = pureT false := by simpa using h
    have := whileT_stop (c := c) (b := b) (x := a) (g := g) (by rw [h']; rfl)
    simpa using this
  | m + 1, a, h1, h2, g => by
    have e0 : c a = pureT true := by simpa using h1 0 (by omega)
    refine whileT_go (g1 := g) (g2 := g) (y := a + 1) (by rw [e0]; rfl) (by rw [hb]; rfl) ?_
    have := scan hb m (a + 1) (fun k hk => by
      have := h1 (k + 1) (by omega)
      rw [show a + 1 + (k : Int) = a + ((k + 1 : Nat) : Int) by omega]
      exact this) (by rw [show a + 1 + (m : Int) = a + ((m + 1 : Nat) : Int) by omega]; exact h2) g
    rw [this]
    congr 2
    omega
/-- what may stand behind a name, a number -/
def endN : List Nat → Bool
  | [] => true
  | c :: _ => !subStr (chS c) "abcdefghijklmnopqrstuvwxyz" && !subStr (chS c) "0123456789"
theorem c_readName {w : List Nat} (h : cs x = pre ++ w ++ post) (hz : x.length ≤ 10000000) (h1 : w ≠ []) (h6 : w.length ≤ 6) (hw : ∀ c ∈ w, subStr (chS c) "abcdefghijklmnopqrstuvwxyz" = true) (hp : endN post = true) :
    callT F_read_name (eP D.str D.int) [D.str x, D.int (pre.length : Int)] = pureT (mkS w, (pre.length : Int) + (w.length : Int)) := callT_pure fun g => S_read_name _ _ (by
  unfold T_read_name
  rw [bindT_pure]
  have hl : (cs x).length = pre.length + w.length + post.length := by rw [h]; simp only [List.length_append]
  have e : ∀ g, whileT (fun b3 => (bindT (bindT (pureT b3) fun x5 => bindT (optT (lenS x)) fun y6 => optT (some (decide (x5 < y6)))) fun b12 => if b12 = true then (bindT (pureT (decide ((b3 - (pre.length : Int)) < 6) : Bool)) fun b11 => if b11 = true then (bindT (optT (chT x b3)) fun x9 => bindT (pureT ("abcdefghijklmnopqrstuvwxyz" : Str)) fun y10 => optT (some (subStr x9 y10))) else pureT false) else pureT false)) (fun b3 => (bindT (pureT (b3 + 1 : Int)) fun v13 => pureT v13)) (pre.length : Int) g = some ((pre.length : Int) + (w.length : Int), g) := fun g => by
    refine scan (fun i => rfl) w.length _ (fun k hk => ?_) ?_ g
    · have e1 := chT_at (x := x) (pre := pre ++ w.take k) (c := w[k]) (post := w.drop (k + 1) ++ post) (by
        rw [h, ← List.cons_append, List.getElem_cons_drop, List.append_assoc, List.append_assoc, ← List.append_assoc (w.take k), List.take_append_drop]) hz
      rw [show ((pre ++ w.take k).length : Int) = (pre.length : Int) + (k : Int) by simp; omega] at e1
      have d1 : decide ((pre.length : Int) + (k : Int) < ((cs x).length : Int)) = true := by rw [hl]; exact decide_eq_true (by omega)
      have d2 : decide ((pre.length : Int) + (k : Int) - (pre.length : Int) < 6) = true := decide_eq_true (by omega)
      simp only [lenS_eq hz, opt_some, bindT_pure, d1, d2, if_true, e1, hw _ (List.getElem_mem hk)]
    · cases post with
      | nil =>
        have d1 : decide ((pre.length : Int) + (w.length : Int) < ((cs x).length : Int)) = false := by rw [hl]; exact decide_eq_false (by simp)
        simp only [lenS_eq hz, opt_some, bindT_pure, d1, Bool.false_eq_true, if_false]
      | cons c post =>
        have e1 := chT_at (x := x) (pre := pre ++ w) (c := c) (post := post) h hz
        rw [show ((pre ++ w).length : Int) = (pre.length : Int) + (w.length : Int) by simp] at e1
        have d1 : decide ((pre.length : Int) + (w.length : Int) < ((cs x).length : Int)) = true := by rw [hl]; exact decide_eq_true (by simp; omega)
        have hc : subStr (chS c) "abcdefghijklmnopqrstuvwxyz" = false := by
          simp only [endN, Bool.and_eq_true, Bool.not_eq_true'] at hp
          exact hp.1
        simp only [lenS_eq hz, opt_some, bindT_pure, d1, if_true, e1, hc]
        split <;> rfl
  have e2 := slT_at h hz
  have hw0 : 0 < w.length := List.length_pos_iff.mpr h1
  have d3 : eqB ((pre.length : Int) + (w.length : Int)) (pre.length : Int) = false := by
    cases hb : eqB ((pre.length : Int) + (w.length : Int)) (pre.length : Int) with
    | false => rfl
    | true => have := eqB_iff.mp hb; omega
  rw [bind_run (e g)]
  simp only [d3, bindT_pure, Bool.false_eq_true, if_false, e2, opt_some]
  rfl)
theorem numL_head (n : Nat) (h : 1 ≤ n) : ∀ d ds, TL.numL n = d :: ds → d ≠ 48 := by
  induction n using Nat.strongRecOn with
  | _ n ih =>
    intro d ds e
    by_cases hn : n < 10
    · rw [TL.numL_lt hn] at e
      have := (List.cons.inj e).1
      omega
    · rw [TL.numL_step (by omega)] at e
      obtain ⟨d1, ds1, h1⟩ : ∃ d ds, TL.numL (n / 10) = d :: ds := List.exists_cons_of_ne_nil (TL.numL_ne _)
      rw [h1, List.cons_append] at e
      have := ih (n / 10) (by omega) (by omega) d1 ds1 h1
      rwa [(List.cons.inj e).1] at this
theorem c_readNumber {n : Nat} (h : cs x = pre ++ TL.numL n ++ post) (hz : x.length ≤ 10000000) (h1 : 1 ≤ n) (h4 : n ≤ 9999) (hp : endN post = true) :
    callT F_read_number (eP D.int D.int) [D.str x, D.int (pre.length : Int)] = pureT ((n : Int), (pre.length : Int) + ((TL.numL n).length : Int)) := callT_pure fun g => S_read_number _ _ (by
  unfold T_read_number
  rw [bindT_pure]
  have hl : (cs x).length = pre.length + (TL.numL n).length + post.length := by rw [h]; simp only [List.length_append]
  have hlen : (TL.numL n).length ≤ 4 := TL.numL_len (by decide) (by omega)
  have hdig := TL.numL_digits n
  have hin : ∀ c ∈ TL.numL n, subStr (chS c) "0123456789" = true := fun c hc => by
    have := hdig c hc
    have : c = 48 ∨ c = 49 ∨ c = 50 ∨ c = 51 ∨ c = 52 ∨ c = 53 ∨ c = 54 ∨ c = 55 ∨ c = 56 ∨ c = 57 := by omega
    rcases this with rfl | rfl | rfl | rfl | rfl | rfl | rfl | rfl | rfl | rfl <;> decide +kernel
  obtain ⟨d0, ds, hd⟩ : ∃ d0 ds, TL.numL n = d0 :: ds := List.exists_cons_of_ne_nil (TL.numL_ne n)
  have h0 : d0 ≠ 48 := numL_head n h1 d0 ds hd
  have e0 : chT x (pre.length : Int) = some (chS d0) := chT_at (post := ds ++ post) (by rw [h, hd]; simp) hz
  have q0 : eqB (chS d0) "0" = false := by
    cases hb : eqB (chS d0) ("0" : Str) with
    | false => rfl
    | true =>
      have := eqB_iff.mp hb
      have : cs (chS d0) = cs "0" := by rw [this]
      have h2 : cs (chS d0) = [d0] := rfl
      have h3 : cs "0" = [48] := by decide +kernel
      rw [h2, h3] at this
      exact absurd (List.cons.inj this).1 h0
  have e : ∀ g, whileT (fun b3 => (bindT (bindT (pureT b3) fun x5 => bindT (optT (lenS x)) fun y6 => optT (some (decide (x5 < y6)))) fun b17 => if b17 = true then (bindT (pureT (decide ((b3 - (pre.length : Int)) < 4) : Bool)) fun b16 => if b16 = true then (bindT (bindT (optT (chT x b3)) fun x9 => bindT (pureT ("0123456789" : Str)) fun y10 => optT (some (subStr x9 y10))) fun b15 => if b15 = true then (bindT (optT (chT x (pre.length : Int))) fun x13 => bindT (pureT ("0" : Str)) fun y14 => optT (some (!eqB x13 y14))) else pureT false) else pureT false) else pureT false)) (fun b3 => (bindT (pureT (b3 + 1 : Int)) fun v18 => pureT v18)) (pre.length : Int) g = some ((pre.length : Int) + ((TL.numL n).length : Int), g) := fun g => by
    refine scan (fun i => rfl) (TL.numL n).length _ (fun k hk => ?_) ?_ g
    · obtain ⟨w, hw⟩ : ∃ w, w = TL.numL n := ⟨_, rfl⟩
      rw [← hw] at h hk hl hlen hin
      have e1 := chT_at (x := x) (pre := pre ++ w.take k) (c := w[k]) (post := w.drop (k + 1) ++ post) (by
        rw [h, ← List.cons_append, List.getElem_cons_drop, List.append_assoc, List.append_assoc, ← List.append_assoc (w.take k), List.take_append_drop]) hz
      rw [show ((pre ++ w.take k).length : Int) = (pre.length : Int) + (k : Int) by simp; omega] at e1
      have d1 : decide ((pre.length : Int) + (k : Int) < ((cs x).length : Int)) = true := by rw [hl]; exact decide_eq_true (by omega)
      have d2 : decide ((pre.length : Int) + (k : Int) - (pre.length : Int) < 4) = true := decide_eq_true (by omega)
      simp only [lenS_eq hz, opt_some, bindT_pure, d1, d2, if_true, e1, hin _ (List.getElem_mem hk), e0, q0, Bool.not_false]
    · cases post with
      | nil =>
        have d1 : decide ((pre.length : Int) + ((TL.numL n).length : Int) < ((cs x).length : Int)) = false := by rw [hl]; exact decide_eq_false (by simp)
        simp only [lenS_eq hz, opt_some, bindT_pure, d1, Bool.false_eq_true, if_false]
      | cons c post =>
        have e1 := chT_at (x := x) (pre := pre ++ TL.numL n) (c := c) (post := post) h hz
        rw [show ((pre ++ TL.numL n).length : Int) = (pre.length : Int) + ((TL.numL n).length : Int) by simp] at e1
        have d1 : decide ((pre.length : Int) + ((TL.numL n).length : Int) < ((cs x).length : Int)) = true := by rw [hl]; exact decide_eq_true (by simp; omega)
        have hc : subStr (chS c) "0123456789" = false := by
          simp only [endN, Bool.and_eq_true, Bool.not_eq_true'] at hp
          exact hp.2
        simp only [lenS_eq hz, opt_some, bindT_pure, d1, if_true, e1, hc, Bool.false_eq_true, if_false]
        split <;> rfl
  have e2 := slT_at h hz
  have hw0 : 0 < (TL.numL n).length := List.length_pos_iff.mpr (TL.numL_ne n)
  have d3 : eqB ((pre.length : Int) + ((TL.numL n).length : Int)) (pre.length : Int) = false := by
    cases hb : eqB ((pre.length : Int) + ((TL.numL n).length : Int)) (pre.length : Int) with
    | false => rfl
    | true => have := eqB_iff.mp hb; omega
  have hs : mkS (TL.numL n) = Str.ofString (toString ((n : Nat) : Int)) := cs_ext (TL.tl_num n).symm
  have e3 : intT (mkS (TL.numL n)) = some (n : Int) := by
    unfold intT
    rw [if_pos (by rw [cs_len, cs_mk]; omega), hs]
    exact TL.int_num (by omega)
  rw [bind_run (e g)]
  simp only [d3, bindT_pure, Bool.false_eq_true, if_false, e2, opt_some, e3]
  rfl)
end
end DL
namespace DL
open PySem PySem.Spec PyProof.Rows L2
/-! ### the texts of plans -/
def tx' : Plan → List Nat
  | .all t => cs "all " ++ cs t
  | .thin p c r => cs "thin(" ++ tx' p ++ cs ", " ++ cs c ++ cs ", " ++ (TL.numL r.1 ++ cs "/" ++ TL.numL r.2) ++ cs ")"
  | .two w p q => cs w.nm ++ cs "(" ++ tx' p ++ cs ", " ++ tx' q ++ cs ")"
/-- names that may stand in a text -/
def Nam (s : Str) : Prop := 1 ≤ (cs s).length ∧ (cs s).length ≤ 6 ∧ ∀ c ∈ cs s, subStr (chS c) "abcdefghijklmnopqrstuvwxyz" = true
theorem nam_of {s : Str} (h : nameB (.str s) = true) : Nam s := by
  simp only [nameB, Bool.and_eq_true, decide_eq_true_eq, List.all_eq_true] at h
  refine ⟨by rw [← cs_len]; exact h.1.1, by rw [← cs_len]; exact h.1.2, fun c hc => ?_⟩
  exact h.2 (.str ⟨#[c]⟩) (List.mem_map.mpr ⟨c, hc, rfl⟩)
section
variable {dl : List (Str × Str)} {hs : List (Str × List Str)}
theorem nam_head (hh : Heads dl hs) {t : Str} (h : t ∈ hs.map (·.1)) : Nam t := nam_of (headNames_ok _ (name_head hh h)).2.2
theorem nam_col (hd : Dials dl) (hh : Heads dl hs) {fr : List Str} {c : Str} (h : c ∈ colsL hs fr) : Nam c := nam_of (colNames_ok _ (cols_name hd hh h)).2.2
theorem numL_small {n : Nat} (h : n ≤ 9999) : (TL.numL n).length ≤ 4 := TL.numL_len (by decide) (by omega)
theorem c1 : (cs "all ").length = 4 := by decide +kernel
theorem c2 : (cs "thin(").length = 5 := by decide +kernel
theorem c3 : (cs ", ").length = 2 := by decide +kernel
theorem c4 : (cs "/").length = 1 := by decide +kernel
theorem c5 : (cs ")").length = 1 := by decide +kernel
theorem c6 : (cs "(").length = 1 := by decide +kernel
theorem c7 (w : W2) : (cs w.nm).length ≤ 6 := by cases w <;> decide +kernel
theorem tx'_len (hd : Dials dl) (hh : Heads dl hs) : ∀ p : Plan, PlanOk hs p → (tx' p).length ≤ 30 * p.size
  | .all t, h => by
    have := (nam_head hh h).2.1
    simp only [tx', List.length_append, c1, Plan.size]; omega
  | .thin p c r, h => by
    have := tx'_len hd hh p h.1
    have := (nam_col hd hh h.2.1).2.1
    have := numL_small (n := r.1) (by have := h.2.2.le; have := h.2.2.most; omega)
    have := numL_small (n := r.2) (by have := h.2.2.most; omega)
    simp only [tx', List.length_append, c2, c3, c4, c5, Plan.size]; omega
  | .two w p q, h => by
    have := tx'_len hd hh p h.1
    have := tx'_len hd hh q h.2.1
    have := c7 w
    simp only [tx', List.length_append, c3, c5, c6, Plan.size]; omega
/-! ### told by the program, and by the law -/
theorem strT_nat {n : Nat} (h : n ≤ 9999) : strT (n : Int) = some (mkS (TL.numL n)) := by
  unfold strT
  have : ((n : Int)).natAbs.log2 < 1920 := by
    rw [Int.natAbs_natCast]
    by_cases e : n = 0
    · subst e; decide
    · exact (Nat.log2_lt e).mpr (Nat.lt_of_le_of_lt h (Nat.lt_of_lt_of_le (by decide : 9999 < 2 ^ 14) (Nat.pow_le_pow_right (by decide) (by decide))))
  rw [if_pos this]
  exact congrArg some (cs_ext (TL.tl_num n))
theorem catS_mk {a : Str} {b : Str} {l : List Nat} (h : cs a ++ cs b = l) (hz : l.length ≤ 10000000) : catS a b = some (mkS l) := by
  unfold catS
  have : a.length + b.length = l.length := by rw [cs_len, cs_len, ← h, List.length_append]
  rw [if_pos (by rw [sizeLine_eq]; omega)]
  exact congrArg some (cs_ext (by rw [cs_app, h]; rfl))
theorem fmtT_eq {x : Str} (h : (cs x).length ≤ 10000000) : fmtT x = some x := by
  unfold fmtT
  rw [if_pos (by rw [sizeLine_eq, cs_len]; omega)]
/-- a text put behind one -/
theorem js_cons {m : TM Str} {ms : List (TM Str)} {y : Str} {acc : List Nat} (hm : m = pureT y) (hz : acc.length + (cs y).length ≤ 10000000) : jsT (m :: ms) (mkS acc) = jsT ms (mkS (acc ++ cs y)) := by
  subst hm
  rw [show jsT (pureT y :: ms) (mkS acc) = bindT (optT (catS (mkS acc) y)) fun acc' => jsT ms acc' from rfl, catS_mk (l := acc ++ cs y) (by rw [cs_mk]) (by rw [List.length_append]; exact hz), opt_some, bindT_pure]
theorem mk_nil : Str.empty = mkS [] := rfl
def rateX (r : Rt) : List Nat := TL.numL r.1 ++ cs "/" ++ TL.numL r.2
theorem c_rateText {r : Rt} (h : Rate r) : callT F_rate_text D.str [rateE r] = pureT (mkS (rateX r)) := callT_pure fun g => S_rate_text _ (by
  have h1 : r.1 ≤ 9999 := by have := h.le; have := h.most; omega
  have h2 : r.2 ≤ 9999 := by have := h.most; omega
  have l1 := numL_small h1
  have l2 := numL_small h2
  unfold T_rate_text
  rw [strT_nat h1, strT_nat h2, mk_nil]
  simp only [opt_some]
  have l3 := c4
  have q1 : (cs (mkS (TL.numL r.1))).length = (TL.numL r.1).length := by rw [cs_mk]
  have q2 : (cs (mkS (TL.numL r.2))).length = (TL.numL r.2).length := by rw [cs_mk]
  rw [js_cons (y := mkS (TL.numL r.1)) rfl (by simp only [List.length_nil]; omega), js_cons (y := "/") rfl (by simp only [List.length_nil, List.length_append]; omega), js_cons (y := mkS (TL.numL r.2)) rfl (by simp only [List.length_nil, List.length_append]; omega)]
  unfold jsT
  simp only [cs_mk, List.nil_append]
  rfl)
theorem eqB_neS {a b : Str} (h : a ≠ b) : eqB a b = false := by simp [eqB, h]
theorem pStr1 (t : Str) : pStr (.all t) 1 = some t := rfl
theorem pStr2 (p : Plan) (c : Str) (r : Rt) : pStr (.thin p c r) 2 = some c := rfl
theorem pRate3 (p : Plan) (c : Str) (r : Rt) : pRate (.thin p c r) 3 = some r := rfl
theorem pSub1 (p : Plan) (c : Str) (r : Rt) : pSub (.thin p c r) 1 = some p := rfl
theorem pSub1' (w : W2) (p q : Plan) : pSub (.two w p q) 1 = some p := rfl
theorem pSub2' (w : W2) (p q : Plan) : pSub (.two w p q) 2 = some q := rfl
theorem e_all (t : Str) : eqB (pTag (.all t)) ("all" : Str) = true := eqB_iff.mpr rfl
theorem e_thin1 (p : Plan) (c : Str) (r : Rt) : eqB (pTag (.thin p c r)) ("all" : Str) = false := by
  show eqB ("thin" : Str) "all" = false
  exact eqB_neS (by decide +kernel)
theorem e_thin2 (p : Plan) (c : Str) (r : Rt) : eqB (pTag (.thin p c r)) ("thin" : Str) = true := eqB_iff.mpr rfl
theorem e_two1 (w : W2) (p q : Plan) : eqB (pTag (.two w p q)) ("all" : Str) = false := by
  show eqB w.nm ("all" : Str) = false
  cases w <;> exact eqB_neS (by decide +kernel)
theorem e_two2 (w : W2) (p q : Plan) : eqB (pTag (.two w p q)) ("thin" : Str) = false := by
  show eqB w.nm ("thin" : Str) = false
  cases w <;> exact eqB_neS (by decide +kernel)
theorem T_plan_text_eq (hd : Dials dl) (hh : Heads dl hs) : ∀ (k : Nat) (p : Plan), p.size ≤ k + 1 → p.size ≤ 1000 → PlanOk hs p → T_plan_text k p = pureT (mkS (tx' p))
  | k, .all t, hk, hz, h => by
    have hn := (nam_head hh h).2.1
    unfold T_plan_text
    rw [e_all, bindT_pure, if_pos rfl, bindT_pure, pStr1, opt_some, bindT_pure, catS_mk (l := cs "all " ++ cs t) rfl (by rw [List.length_append, c1]; omega)]
    rfl
  | 0, .thin p c r, hk, _, h => by cases p <;> simp [Plan.size] at hk
  | k + 1, .thin p c r, hk, hz, h => by
    have ih := T_plan_text_eq hd hh k p (by simp [Plan.size] at hk; omega) (by simp [Plan.size] at hz; omega) h.1
    have cp : callT (F_plan_text (k + 1)) D.str [planE p] = pureT (mkS (tx' p)) := callT_pure fun g => S_plan_text k p (by rw [ih]; rfl)
    have hn := (nam_col hd hh h.2.1).2.1
    have lp := tx'_len hd hh p h.1
    have l1 := numL_small (n := r.1) (by have := h.2.2.le; have := h.2.2.most; omega)
    have l2 := numL_small (n := r.2) (by have := h.2.2.most; omega)
    have lr : (rateX r).length ≤ 9 := by simp only [rateX, List.length_append, c4]; omega
    simp only [Plan.size] at hz
    unfold T_plan_text
    rw [e_thin1, bindT_pure, if_neg (by simp), e_thin2, bindT_pure, if_pos rfl, pSub1, pStr2, pRate3]
    simp only [opt_some, bindT_pure, cp, c_rateText h.2.2]
    rw [fmtT_eq (x := mkS (tx' p)) (by rw [cs_mk]; omega), fmtT_eq (x := c) (by omega), fmtT_eq (x := mkS (rateX r)) (by rw [cs_mk]; omega)]
    simp only [opt_some]
    have z1 := c2
    have z2 := c3
    have z3 := c5
    have q1 : (cs (mkS (tx' p))).length = (tx' p).length := by rw [cs_mk]
    have q2 : (cs (mkS (rateX r))).length = (rateX r).length := by rw [cs_mk]
    rw [mk_nil, js_cons (y := "thin(") rfl (by simp only [List.length_nil]; omega), js_cons (y := mkS (tx' p)) rfl (by simp only [List.length_nil, List.length_append]; omega), js_cons (y := ", ") rfl (by simp only [List.length_nil, List.length_append]; omega),
      js_cons (y := c) rfl (by simp only [List.length_nil, List.length_append]; omega), js_cons (y := ", ") rfl (by simp only [List.length_nil, List.length_append]; omega), js_cons (y := mkS (rateX r)) rfl (by simp only [List.length_nil, List.length_append]; omega), js_cons (y := ")") rfl (by simp only [List.length_nil, List.length_append]; omega)]
    unfold jsT
    simp only [cs_mk, List.nil_append]
    rfl
  | 0, .two w p q, hk, _, h => by cases p <;> simp [Plan.size] at hk <;> omega
  | k + 1, .two w p q, hk, hz, h => by
    have ih := T_plan_text_eq hd hh k p (by simp [Plan.size] at hk; omega) (by simp [Plan.size] at hz; omega) h.1
    have ih2 := T_plan_text_eq hd hh k q (by simp [Plan.size] at hk; omega) (by simp [Plan.size] at hz; omega) h.2.1
    have cp : callT (F_plan_text (k + 1)) D.str [planE p] = pureT (mkS (tx' p)) := callT_pure fun g => S_plan_text k p (by rw [ih]; rfl)
    have cq : callT (F_plan_text (k + 1)) D.str [planE q] = pureT (mkS (tx' q)) := callT_pure fun g => S_plan_text k q (by rw [ih2]; rfl)
    have lp := tx'_len hd hh p h.1
    have lq := tx'_len hd hh q h.2.1
    simp only [Plan.size] at hz
    have z0 := c7 w
    unfold T_plan_text
    rw [e_two1, bindT_pure, if_neg (by simp), e_two2, bindT_pure, if_neg (by simp), pSub1', pSub2']
    simp only [opt_some, bindT_pure, cp, cq]
    rw [show pTag (.two w p q) = w.nm from rfl]
    rw [fmtT_eq (x := mkS (tx' p)) (by rw [cs_mk]; omega), fmtT_eq (x := mkS (tx' q)) (by rw [cs_mk]; omega), fmtT_eq (x := w.nm) (by omega)]
    simp only [opt_some]
    have z1 := c6
    have z2 := c3
    have z3 := c5
    have q1 : (cs (mkS (tx' p))).length = (tx' p).length := by rw [cs_mk]
    have q2 : (cs (mkS (tx' q))).length = (tx' q).length := by rw [cs_mk]
    rw [mk_nil, js_cons (y := w.nm) rfl (by simp only [List.length_nil]; omega), js_cons (y := "(") rfl (by simp only [List.length_nil, List.length_append]; omega), js_cons (y := mkS (tx' p)) rfl (by simp only [List.length_nil, List.length_append]; omega),
      js_cons (y := ", ") rfl (by simp only [List.length_nil, List.length_append]; omega), js_cons (y := mkS (tx' q)) rfl (by simp only [List.length_nil, List.length_append]; omega), js_cons (y := ")") rfl (by simp only [List.length_nil, List.length_append]; omega)]
    unfold jsT
    simp only [cs_mk, List.nil_append]
    rfl
theorem c_planText (hd : Dials dl) (hh : Heads dl hs) {p : Plan} (hz : p.size ≤ 30) (h : PlanOk hs p) : callT (F_plan_text fu_plan_text) D.str [planE p] = pureT (mkS (tx' p)) := callT_pure fun g => S_plan_text 29 p (by rw [T_plan_text_eq hd hh 29 p (by omega) (by omega) h]; rfl)
end
end DL
namespace DL
open PySem PySem.Spec PyProof.Rows L2
section
variable {dl : List (Str × Str)} {hs : List (Str × List Str)}
theorem catS_app {l : List Nat} {b : Str} (hz : l.length + (cs b).length ≤ 10000000) : catS (mkS l) b = some (mkS (l ++ cs b)) := catS_mk (by rw [cs_mk]) (by rw [List.length_append]; exact hz)
theorem catS_app' {a b : Str} (hz : (cs a).length + (cs b).length ≤ 10000000) : catS a b = some (mkS (cs a ++ cs b)) := catS_mk rfl (by rw [List.length_append]; exact hz)
theorem T_law_text_eq (hd : Dials dl) (hh : Heads dl hs) : ∀ (k : Nat) (p : Plan), p.size ≤ k + 1 → p.size ≤ 1000 → PlanOk hs p → T__law_text k p = pureT (mkS (tx' p))
  | k, .all t, hk, hz, h => by
    have hn := (nam_head hh h).2.1
    unfold T__law_text
    rw [e_all, bindT_pure, if_pos rfl, bindT_pure, pStr1, opt_some, bindT_pure, catS_mk (l := cs "all " ++ cs t) rfl (by rw [List.length_append, c1]; omega)]
    rfl
  | 0, .thin p c r, hk, _, h => by cases p <;> simp [Plan.size] at hk
  | k + 1, .thin p c r, hk, hz, h => by
    have ih := T_law_text_eq hd hh k p (by simp [Plan.size] at hk; omega) (by simp [Plan.size] at hz; omega) h.1
    have cp : callT (F__law_text (k + 1)) D.str [planE p] = pureT (mkS (tx' p)) := callT_pure fun g => S__law_text k p (by rw [ih]; rfl)
    have hn := (nam_col hd hh h.2.1).2.1
    have lp := tx'_len hd hh p h.1
    have h1 : r.1 ≤ 9999 := by have := h.2.2.le; have := h.2.2.most; omega
    have h2 : r.2 ≤ 9999 := by have := h.2.2.most; omega
    have l1 := numL_small h1
    have l2 := numL_small h2
    have lr : (rateX r).length ≤ 9 := by simp only [rateX, List.length_append, c4]; omega
    simp only [Plan.size] at hz
    have z1 := c2
    have z2 := c3
    have z3 := c5
    have z4 := c4
    have q1 : (cs (mkS (tx' p))).length = (tx' p).length := by rw [cs_mk]
    have q2 : (cs (mkS (rateX r))).length = (rateX r).length := by rw [cs_mk]
    have q3 : (cs (mkS (TL.numL r.1))).length = (TL.numL r.1).length := by rw [cs_mk]
    have q4 : (cs (mkS (TL.numL r.2))).length = (TL.numL r.2).length := by rw [cs_mk]
    unfold T__law_text
    rw [e_thin1, bindT_pure, if_neg (by simp), e_thin2, bindT_pure, if_pos rfl, pSub1, pStr2, pRate3]
    simp only [opt_some, bindT_pure, cp, strT_nat h1, strT_nat h2]
    rw [catS_app (b := "/") (by omega)]
    simp only [opt_some, bindT_pure]
    rw [catS_app (b := mkS (TL.numL r.2)) (by simp only [List.length_append]; omega)]
    simp only [opt_some, bindT_pure]
    rw [show mkS (TL.numL r.1 ++ cs "/" ++ cs (mkS (TL.numL r.2))) = mkS (rateX r) from rfl, catS_app' (a := "thin(") (b := mkS (tx' p)) (by omega)]
    simp only [opt_some, bindT_pure]
    rw [catS_app (b := ", ") (by simp only [List.length_append]; omega)]
    simp only [opt_some, bindT_pure]
    rw [catS_app (b := c) (by simp only [List.length_append]; omega)]
    simp only [opt_some, bindT_pure]
    rw [catS_app (b := ", ") (by simp only [List.length_append]; omega)]
    simp only [opt_some, bindT_pure]
    rw [catS_app (b := mkS (rateX r)) (by simp only [List.length_append]; omega)]
    simp only [opt_some, bindT_pure]
    rw [catS_app (b := ")") (by simp only [List.length_append]; omega)]
    simp only [cs_mk]
    rfl
  | 0, .two w p q, hk, _, h => by cases p <;> simp [Plan.size] at hk <;> omega
  | k + 1, .two w p q, hk, hz, h => by
    have ih := T_law_text_eq hd hh k p (by simp [Plan.size] at hk; omega) (by simp [Plan.size] at hz; omega) h.1
    have ih2 := T_law_text_eq hd hh k q (by simp [Plan.size] at hk; omega) (by simp [Plan.size] at hz; omega) h.2.1
    have cp : callT (F__law_text (k + 1)) D.str [planE p] = pureT (mkS (tx' p)) := callT_pure fun g => S__law_text k p (by rw [ih]; rfl)
    have cq : callT (F__law_text (k + 1)) D.str [planE q] = pureT (mkS (tx' q)) := callT_pure fun g => S__law_text k q (by rw [ih2]; rfl)
    have lp := tx'_len hd hh p h.1
    have lq := tx'_len hd hh q h.2.1
    simp only [Plan.size] at hz
    have z0 := c7 w
    have z1 := c6
    have z2 := c3
    have z3 := c5
    have q1 : (cs (mkS (tx' p))).length = (tx' p).length := by rw [cs_mk]
    have q2 : (cs (mkS (tx' q))).length = (tx' q).length := by rw [cs_mk]
    unfold T__law_text
    rw [e_two1, bindT_pure, if_neg (by simp), e_two2, bindT_pure, if_neg (by simp), pSub1', pSub2', show pTag (.two w p q) = w.nm from rfl]
    simp only [opt_some, bindT_pure, cp, cq]
    rw [catS_app' (a := w.nm) (b := "(") (by omega)]
    simp only [opt_some, bindT_pure]
    rw [catS_app (b := mkS (tx' p)) (by simp only [List.length_append]; omega)]
    simp only [opt_some, bindT_pure]
    rw [catS_app (b := ", ") (by simp only [List.length_append]; omega)]
    simp only [opt_some, bindT_pure]
    rw [catS_app (b := mkS (tx' q)) (by simp only [List.length_append]; omega)]
    simp only [opt_some, bindT_pure]
    rw [catS_app (b := ")") (by simp only [List.length_append]; omega)]
    simp only [cs_mk]
    rfl
theorem c_lawText (hd : Dials dl) (hh : Heads dl hs) {p : Plan} (hz : p.size ≤ 30) (h : PlanOk hs p) : callT (F__law_text fu__law_text) D.str [planE p] = pureT (mkS (tx' p)) := callT_pure fun g => S__law_text 29 p (by rw [T_law_text_eq hd hh 29 p (by omega) (by omega) h]; rfl)
/-! ### the word at a place -/
def words5 : List (Str × Str × Nat) := [("all ", "all", 97), ("thin(", "thin", 116), ("join(", "join", 106), ("either(", "either", 101), ("meet(", "meet", 109)]
theorem slT_last (w v : Str) (h : ∃ c, cs w = cs v ++ [c]) (hz : (cs w).length ≤ 100) : slT w none (some (-1)) = some v := by
  obtain ⟨c, h⟩ := h
  unfold slT
  rw [if_pos (by rw [sizeLine_eq, cs_len]; omega)]
  unfold L2.cutS
  have hl : w.length = (cs v).length + 1 := by rw [cs_len, h]; simp
  have e1 : HT.sIx w.length 0 none = 0 := rfl
  have e2 : HT.sIx w.length w.length (some (-1)) = (cs v).length := by
    have : HT.sIx w.length w.length (some (-1)) = ((-1 : Int) + (w.length : Int)).toNat := rfl
    rw [this]; omega
  rw [e1, e2]
  refine congrArg some (cs_ext ?_)
  show ((cs w).drop 0).take ((cs v).length - 0) = cs v
  rw [h]; simp
theorem ch_all : chT "all " 0 = some (chS 97) := chT_at (pre := []) (post := [108, 108, 32]) (by decide +kernel) (by decide +kernel)
theorem ch_thin : chT "thin(" 0 = some (chS 116) := chT_at (pre := []) (post := [104, 105, 110, 40]) (by decide +kernel) (by decide +kernel)
theorem ch_join : chT "join(" 0 = some (chS 106) := chT_at (pre := []) (post := [111, 105, 110, 40]) (by decide +kernel) (by decide +kernel)
theorem ch_either : chT "either(" 0 = some (chS 101) := chT_at (pre := []) (post := [105, 116, 104, 101, 114, 40]) (by decide +kernel) (by decide +kernel)
theorem ch_meet : chT "meet(" 0 = some (chS 109) := chT_at (pre := []) (post := [101, 101, 116, 40]) (by decide +kernel) (by decide +kernel)
theorem eq_ch (a b : Nat) : eqB (chS a) (chS b) = decide (a = b) := by
  by_cases h : a = b
  · subst h; rw [decide_eq_true rfl]; exact eqB_iff.mpr rfl
  · rw [decide_eq_false h]
    refine eqB_neS fun e => h ?_
    have : cs (chS a) = cs (chS b) := by rw [e]
    exact (List.cons.inj this).1
theorem word_facts {W tag : Str} {c : Nat} (h : (W, tag, c) ∈ words5) : (∃ r, cs W = c :: r) ∧ slT W none (some (-1)) = some tag ∧ chT W 0 = some (chS c) := by
  simp only [words5, List.mem_cons, List.not_mem_nil, or_false, Prod.mk.injEq] at h
  rcases h with ⟨rfl, rfl, rfl⟩ | ⟨rfl, rfl, rfl⟩ | ⟨rfl, rfl, rfl⟩ | ⟨rfl, rfl, rfl⟩ | ⟨rfl, rfl, rfl⟩
  · exact ⟨⟨[108, 108, 32], by decide +kernel⟩, slT_last _ _ ⟨32, by decide +kernel⟩ (by decide +kernel), ch_all⟩
  · exact ⟨⟨[104, 105, 110, 40], by decide +kernel⟩, slT_last _ _ ⟨40, by decide +kernel⟩ (by decide +kernel), ch_thin⟩
  · exact ⟨⟨[111, 105, 110, 40], by decide +kernel⟩, slT_last _ _ ⟨40, by decide +kernel⟩ (by decide +kernel), ch_join⟩
  · exact ⟨⟨[105, 116, 104, 101, 114, 40], by decide +kernel⟩, slT_last _ _ ⟨40, by decide +kernel⟩ (by decide +kernel), ch_either⟩
  · exact ⟨⟨[101, 101, 116, 40], by decide +kernel⟩, slT_last _ _ ⟨40, by decide +kernel⟩ (by decide +kernel), ch_meet⟩
theorem forF_miss {α β ρ : Type} {mb : α → β → TM (Flo β ρ)} {a : α} {l : List α} {b b' : β} (h : mb a b = pureT (.nx b')) : forF mb (a :: l) b = forF mb l b' := by
  rw [forF, h]
  rfl
theorem forF_hit {α β ρ : Type} {mb : α → β → TM (Flo β ρ)} {a : α} {l : List α} {b : β} {r : ρ} (h : mb a b = pureT (.rt r)) : forF mb (a :: l) b = pureT (.rt r) := by
  rw [forF, h]
  rfl
noncomputable abbrev wordB (x : Str) (at_ : Int) : Str → Unit → TM (Flo Unit (Str × Int)) := fun i3 b2 => (bindT (bindT (optT (slT x (some at_) (some (at_ + 1)))) fun x6 => bindT (optT (chT i3 0)) fun y7 => optT (some (eqB x6 y7))) fun b8 => if b8 = true then (bindT (bindT (bindT (optT (slT i3 none (some (-1)))) fun x11 => bindT (bindT (callT F_passed D.int [D.str x, D.int at_, D.str i3]) fun x9 => bindT (pureT ()) fun y10 => pureT (x9, y10)) fun y12 => pureT (x11, y12)) fun a13 => pureT (a13.1, a13.2.1)) fun r14 => pureT (.rt r14)) else (pureT (.nx ())))
theorem c_wordAt {x : Str} {pre post : List Nat} {W tag : Str} {c : Nat} (hW : (W, tag, c) ∈ words5) (h : cs x = pre ++ cs W ++ post) (hz : x.length ≤ 10000000) : callT F_word_at (eP D.str D.int) [D.str x, D.int (pre.length : Int)] = pureT (tag, (pre.length : Int) + ((cs W).length : Int)) := callT_pure fun g => S_word_at _ _ (by
  obtain ⟨⟨r, hr⟩, e3, e4⟩ := word_facts hW
  have e1 : slT x (some (pre.length : Int)) (some ((pre.length : Int) + 1)) = some (chS c) := slT_one (post := r ++ post) (by rw [h, hr]; simp) hz
  have e2 := c_passed (w := W) h hz
  have hit : wordB x (pre.length : Int) W () = pureT (.rt (tag, (pre.length : Int) + ((cs W).length : Int))) := by
    unfold wordB
    simp only [e1, e4, opt_some, bindT_pure, eq_ch, decide_true, if_true, e3, e2]
  have miss : ∀ (V : Str) (d : Nat), chT V 0 = some (chS d) → c ≠ d → wordB x (pre.length : Int) V () = pureT (.nx ()) := fun V d hV hd => by
    unfold wordB
    simp only [e1, hV, opt_some, bindT_pure, eq_ch, decide_eq_false hd, Bool.false_eq_true, if_false]
  show (bindF (forF (wordB x (pre.length : Int)) ["all ", "thin(", "join(", "either(", "meet("] ()) fun _ => failT) g = _
  simp only [words5, List.mem_cons, List.not_mem_nil, or_false, Prod.mk.injEq] at hW
  rcases hW with ⟨rfl, rfl, rfl⟩ | ⟨rfl, rfl, rfl⟩ | ⟨rfl, rfl, rfl⟩ | ⟨rfl, rfl, rfl⟩ | ⟨rfl, rfl, rfl⟩
  · rw [forF_hit hit]; rfl
  · rw [forF_miss (miss _ _ ch_all (by decide)), forF_hit hit]; rfl
  · rw [forF_miss (miss _ _ ch_all (by decide)), forF_miss (miss _ _ ch_thin (by decide)), forF_hit hit]; rfl
  · rw [forF_miss (miss _ _ ch_all (by decide)), forF_miss (miss _ _ ch_thin (by decide)), forF_miss (miss _ _ ch_join (by decide)), forF_hit hit]; rfl
  · rw [forF_miss (miss _ _ ch_all (by decide)), forF_miss (miss _ _ ch_thin (by decide)), forF_miss (miss _ _ ch_join (by decide)), forF_miss (miss _ _ ch_either (by decide)), forF_hit hit]; rfl)
end
end DL
namespace DL
open PySem PySem.Spec PyProof.Rows L2
section
variable {dl : List (Str × Str)} {hs : List (Str × List Str)}
theorem adv (a b : List Nat) : (a.length : Int) + (b.length : Int) = ((a ++ b).length : Int) := by simp
theorem endN_comma (l : List Nat) : endN (cs ", " ++ l) = true := by
  have : cs ", " = [44, 32] := by decide +kernel
  rw [this]
  show (!subStr (chS 44) "abcdefghijklmnopqrstuvwxyz" && !subStr (chS 44) "0123456789") = true
  decide +kernel
theorem endN_slash (l : List Nat) : endN (cs "/" ++ l) = true := by
  have : cs "/" = [47] := by decide +kernel
  rw [this]
  show (!subStr (chS 47) "abcdefghijklmnopqrstuvwxyz" && !subStr (chS 47) "0123456789") = true
  decide +kernel
theorem endN_close (l : List Nat) : endN (cs ")" ++ l) = true := by
  have : cs ")" = [41] := by decide +kernel
  rw [this]
  show (!subStr (chS 41) "abcdefghijklmnopqrstuvwxyz" && !subStr (chS 41) "0123456789") = true
  decide +kernel
def wW : W2 → Str
  | .join => "join("
  | .either => "either("
  | .meet => "meet("
def wC : W2 → Nat
  | .join => 106
  | .either => 101
  | .meet => 109
theorem wW_cs (w : W2) : cs (wW w) = cs w.nm ++ cs "(" := by cases w <;> decide +kernel
theorem wW_mem (w : W2) : (wW w, w.nm, wC w) ∈ words5 := by cases w <;> simp [words5, wW, wC, W2.nm]
theorem pw2_nm (w : W2) (p q : Plan) : pw2 w.nm p q = some (.two w p q) := by
  unfold pw2
  cases w with
  | join => rw [if_pos (show W2.join.nm = "join" from rfl)]
  | either => rw [if_neg (by decide +kernel), if_pos (show W2.either.nm = "either" from rfl)]
  | meet => rw [if_neg (by decide +kernel), if_neg (by decide +kernel), if_pos (show W2.meet.nm = "meet" from rfl)]
theorem T_read_some_eq (hd : Dials dl) (hh : Heads dl hs) {x : Str} (hz : x.length ≤ 10000000) : ∀ (k : Nat) (p : Plan) (pre post : List Nat), p.size ≤ k + 1 → PlanOk hs p → cs x = pre ++ tx' p ++ post → endN post = true → T_read_some k x (pre.length : Int) = pureT (p, ((pre ++ tx' p).length : Int))
  | k, .all t, pre, post, hk, h, hx, he => by
    obtain ⟨n1, n6, nl⟩ := nam_head hh h
    have e1 := c_wordAt (x := x) (pre := pre) (post := cs t ++ post) (W := "all ") (tag := "all") (c := 97) (by simp [words5]) (by rw [hx]; simp only [tx', List.append_assoc]) hz
    rw [adv] at e1
    have e2 := c_readName (x := x) (pre := pre ++ cs "all ") (w := cs t) (post := post) (by rw [hx]; simp only [tx', List.append_assoc]) hz (fun e => by rw [e] at n1; simp at n1) n6 nl he
    rw [adv, mk_cs] at e2
    have q : eqB ("all" : Str) "all" = true := eqB_iff.mpr rfl
    unfold T_read_some
    rw [e1, bindT_pure]
    simp only [q, bindT_pure, if_true, e2]
    simp only [tx', List.append_assoc]
  | 0, .thin p c r, pre, post, hk, _, _, _ => by cases p <;> simp [Plan.size] at hk
  | k + 1, .thin p c r, pre, post, hk, h, hx, he => by
    have h1 : r.1 ≤ 9999 := by have := h.2.2.le; have := h.2.2.most; omega
    have h2 : r.2 ≤ 9999 := by have := h.2.2.most; omega
    have h0 := h.2.2.one
    have h02 : 1 ≤ r.2 := by have := h.2.2.le; omega
    obtain ⟨n1, n6, nl⟩ := nam_col hd hh h.2.1
    have e1 := c_wordAt (x := x) (pre := pre) (post := tx' p ++ cs ", " ++ cs c ++ cs ", " ++ (TL.numL r.1 ++ cs "/" ++ TL.numL r.2) ++ cs ")" ++ post) (W := "thin(") (tag := "thin") (c := 116) (by simp [words5]) (by rw [hx]; simp only [tx', List.append_assoc]) hz
    rw [adv] at e1
    have ih := T_read_some_eq hd hh hz k p (pre ++ cs "thin(") (cs ", " ++ cs c ++ cs ", " ++ (TL.numL r.1 ++ cs "/" ++ TL.numL r.2) ++ cs ")" ++ post) (by simp [Plan.size] at hk; omega) h.1 (by rw [hx]; simp only [tx', List.append_assoc]) (by simp only [List.append_assoc]; exact endN_comma _)
    have e2 : callT (F_read_some (k + 1)) (eP planE D.int) [D.str x, D.int ((pre ++ cs "thin(").length : Int)] = pureT (p, ((pre ++ cs "thin(" ++ tx' p).length : Int)) := callT_pure fun g => S_read_some k x _ (by rw [ih]; rfl)
    have e3 := c_passed (x := x) (pre := pre ++ cs "thin(" ++ tx' p) (w := ", ") (post := cs c ++ cs ", " ++ (TL.numL r.1 ++ cs "/" ++ TL.numL r.2) ++ cs ")" ++ post) (by rw [hx]; simp only [tx', List.append_assoc]) hz
    rw [adv] at e3
    have e4 := c_readName (x := x) (pre := pre ++ cs "thin(" ++ tx' p ++ cs ", ") (w := cs c) (post := cs ", " ++ (TL.numL r.1 ++ cs "/" ++ TL.numL r.2) ++ cs ")" ++ post) (by rw [hx]; simp only [tx', List.append_assoc]) hz (fun e => by rw [e] at n1; simp at n1) n6 nl (by simp only [List.append_assoc]; exact endN_comma _)
    rw [adv, mk_cs] at e4
    have e5 := c_passed (x := x) (pre := pre ++ cs "thin(" ++ tx' p ++ cs ", " ++ cs c) (w := ", ") (post := (TL.numL r.1 ++ cs "/" ++ TL.numL r.2) ++ cs ")" ++ post) (by rw [hx]; simp only [tx', List.append_assoc]) hz
    rw [adv] at e5
    have e6 := c_readNumber (x := x) (pre := pre ++ cs "thin(" ++ tx' p ++ cs ", " ++ cs c ++ cs ", ") (n := r.1) (post := cs "/" ++ TL.numL r.2 ++ cs ")" ++ post) (by rw [hx]; simp only [tx', List.append_assoc]) hz h0 h1 (by simp only [List.append_assoc]; exact endN_slash _)
    rw [adv] at e6
    have e7 := c_passed (x := x) (pre := pre ++ cs "thin(" ++ tx' p ++ cs ", " ++ cs c ++ cs ", " ++ TL.numL r.1) (w := "/") (post := TL.numL r.2 ++ cs ")" ++ post) (by rw [hx]; simp only [tx', List.append_assoc]) hz
    rw [adv] at e7
    have e8 := c_readNumber (x := x) (pre := pre ++ cs "thin(" ++ tx' p ++ cs ", " ++ cs c ++ cs ", " ++ TL.numL r.1 ++ cs "/") (n := r.2) (post := cs ")" ++ post) (by rw [hx]; simp only [tx', List.append_assoc]) hz h02 h2 (endN_close _)
    rw [adv] at e8
    have e9 := c_passed (x := x) (pre := pre ++ cs "thin(" ++ tx' p ++ cs ", " ++ cs c ++ cs ", " ++ TL.numL r.1 ++ cs "/" ++ TL.numL r.2) (w := ")") (post := post) (by rw [hx]; simp only [tx', List.append_assoc]) hz
    rw [adv] at e9
    have q1 : eqB ("thin" : Str) "all" = false := eqB_neS (by decide +kernel)
    have q2 : eqB ("thin" : Str) "thin" = true := eqB_iff.mpr rfl
    have q3 : unE rateE (eP D.int D.int ((r.1 : Int), (r.2 : Int))) = some r := unE_eq (e := rateE)
    unfold T_read_some
    rw [e1, bindT_pure]
    simp only [q1, q2, bindT_pure, Bool.false_eq_true, if_false, if_true, e2, e3, e4, e5, e6, e7, e8, e9, q3, opt_some, pw_self]
    simp only [tx', List.append_assoc]
  | 0, .two w p q, pre, post, hk, _, _, _ => by cases p <;> simp [Plan.size] at hk <;> omega
  | k + 1, .two w p q, pre, post, hk, h, hx, he => by
    have e1 := c_wordAt (x := x) (pre := pre) (post := tx' p ++ cs ", " ++ tx' q ++ cs ")" ++ post) (wW_mem w) (by rw [hx, wW_cs]; simp only [tx', List.append_assoc]) hz
    rw [adv] at e1
    have ih := T_read_some_eq hd hh hz k p (pre ++ cs (wW w)) (cs ", " ++ tx' q ++ cs ")" ++ post) (by simp [Plan.size] at hk; omega) h.1 (by rw [hx, wW_cs]; simp only [tx', List.append_assoc]) (by simp only [List.append_assoc]; exact endN_comma _)
    have e2 : callT (F_read_some (k + 1)) (eP planE D.int) [D.str x, D.int ((pre ++ cs (wW w)).length : Int)] = pureT (p, ((pre ++ cs (wW w) ++ tx' p).length : Int)) := callT_pure fun g => S_read_some k x _ (by rw [ih]; rfl)
    have e3 := c_passed (x := x) (pre := pre ++ cs (wW w) ++ tx' p) (w := ", ") (post := tx' q ++ cs ")" ++ post) (by rw [hx, wW_cs]; simp only [tx', List.append_assoc]) hz
    rw [adv] at e3
    have ih2 := T_read_some_eq hd hh hz k q (pre ++ cs (wW w) ++ tx' p ++ cs ", ") (cs ")" ++ post) (by simp [Plan.size] at hk; omega) h.2.1 (by rw [hx, wW_cs]; simp only [tx', List.append_assoc]) (endN_close _)
    have e4 : callT (F_read_some (k + 1)) (eP planE D.int) [D.str x, D.int ((pre ++ cs (wW w) ++ tx' p ++ cs ", ").length : Int)] = pureT (q, ((pre ++ cs (wW w) ++ tx' p ++ cs ", " ++ tx' q).length : Int)) := callT_pure fun g => S_read_some k x _ (by rw [ih2]; rfl)
    have e5 := c_passed (x := x) (pre := pre ++ cs (wW w) ++ tx' p ++ cs ", " ++ tx' q) (w := ")") (post := post) (by rw [hx, wW_cs]; simp only [tx', List.append_assoc]) hz
    rw [adv] at e5
    have q1 : eqB w.nm ("all" : Str) = false := by cases w <;> exact eqB_neS (by decide +kernel)
    have q2 : eqB w.nm ("thin" : Str) = false := by cases w <;> exact eqB_neS (by decide +kernel)
    unfold T_read_some
    rw [e1, bindT_pure]
    simp only [q1, q2, bindT_pure, Bool.false_eq_true, if_false, e2, e3, e4, e5, opt_some, pw2_nm]
    rw [wW_cs]
    simp only [tx', List.append_assoc]
/-! ### looked over -/
theorem c_tablesIn (hh : Heads dl hs) : callT F_tables_in (eT D.str) [schP (dl, hs)] = pureT (hs.map (·.1)) := callT_pure fun g => tablesIn_eq hh
theorem c_united {a b : List Str} (h : a.length + b.length < 64) : callT F_united (eT D.str) [eT D.str a, eT D.str b] = pureT (ssT (a ++ b)) := callT_pure fun g => united_eq h
theorem T_looked_over_eq (hd : Dials dl) (hh : Heads dl hs) : ∀ (k : Nat) (p : Plan) (n : Int), p.size ≤ k + 1 → PlanOk hs p → T_looked_over k (dl, hs) p n = pureT (p.frame, n + (p.size : Int))
  | k, .all t, n, hk, h => by
    have hi : inB t (hs.map (·.1)) = true := inB_iff.mpr h
    unfold T_looked_over
    rw [e_all, bindT_pure, if_pos rfl, pStr1]
    simp only [opt_some, bindT_pure, c_tablesIn hh, hi, Bool.not_true, Bool.false_eq_true, if_false]
    rfl
  | 0, .thin p c r, n, hk, _ => by cases p <;> simp [Plan.size] at hk
  | k + 1, .thin p c r, n, hk, h => by
    have ih := T_looked_over_eq hd hh k p (n + 1) (by simp [Plan.size] at hk; omega) h.1
    have e2 : callT (F_looked_over (k + 1)) (eP (eT D.str) D.int) [schP (dl, hs), planE p, D.int (n + 1)] = pureT (p.frame, n + 1 + (p.size : Int)) := callT_pure fun g => S_looked_over k _ p _ (by rw [ih]; rfl)
    have hi : inB c (colsL hs p.frame) = true := inB_iff.mpr h.2.1
    have e3 : callT F_is_rate D.bl [rateE r] = pureT true := callT_pure fun g => by
      have := isRate_eq (g := g) (rate_fi h.2.2)
      rw [rateB_rate h.2.2] at this
      exact this
    unfold T_looked_over
    rw [e_thin1, bindT_pure, if_neg (by simp), pSub1, pStr2, pRate3, e_thin2]
    simp only [opt_some, bindT_pure, e2, if_true, c_cols hh (plan_frame hh p h.1), hi, e3, Bool.not_true, Bool.false_eq_true, if_false]
    simp only [Plan.frame, Plan.size]
    congr 2
    omega
  | 0, .two w p q, n, hk, _ => by cases p <;> simp [Plan.size] at hk <;> omega
  | k + 1, .two w p q, n, hk, h => by
    have ih := T_looked_over_eq hd hh k p (n + 1) (by simp [Plan.size] at hk; omega) h.1
    have e2 : callT (F_looked_over (k + 1)) (eP (eT D.str) D.int) [schP (dl, hs), planE p, D.int (n + 1)] = pureT (p.frame, n + 1 + (p.size : Int)) := callT_pure fun g => S_looked_over k _ p _ (by rw [ih]; rfl)
    have ih2 := T_looked_over_eq hd hh k q (n + 1 + (p.size : Int)) (by simp [Plan.size] at hk; omega) h.2.1
    have e3 : callT (F_looked_over (k + 1)) (eP (eT D.str) D.int) [schP (dl, hs), planE q, D.int (n + 1 + (p.size : Int))] = pureT (q.frame, n + 1 + (p.size : Int) + (q.size : Int)) := callT_pure fun g => S_looked_over k _ q _ (by rw [ih2]; rfl)
    have l1 := (plan_frame hh p h.1).len hh
    have l2 := (plan_frame hh q h.2.1).len hh
    have q4 : (!eqB (pTag (.two w p q)) ("join" : Str) && !eqB p.frame q.frame) = false := by
      rcases h.2.2 with hw | hf
      · subst hw
        have : eqB (pTag (.two .join p q)) ("join" : Str) = true := eqB_iff.mpr rfl
        rw [this]; rfl
      · have : eqB p.frame q.frame = true := eqB_iff.mpr hf
        rw [this]; simp
    have hfr : ssT (p.frame ++ q.frame) = (Plan.two w p q).frame := by
      simp only [Plan.frame]
      by_cases hw : w = .join
      · rw [if_pos hw]
      · rw [if_neg hw]
        rcases h.2.2 with h' | hf
        · exact absurd h' hw
        · rw [← hf]
          exact asc_eq (ssT_asc _) (plan_frame hh p h.1).asc fun x => by rw [ssT_mem]; simp
    unfold T_looked_over
    rw [e_two1, bindT_pure, if_neg (by simp), pSub1', pSub2', e_two2]
    simp only [opt_some, bindT_pure, e2, e3, q4, Bool.false_eq_true, if_false, c_united (a := p.frame) (b := q.frame) (by omega), hfr]
    simp only [Plan.size]
    congr 2
    omega
theorem c_readPlan (hd : Dials dl) (hh : Heads dl hs) {p : Plan} (hz : p.size ≤ 12) (h : PlanOk hs p) : callT F_read_plan planE [schP (dl, hs), D.str (mkS (tx' p))] = pureT p := callT_pure fun g => S_read_plan _ _ (by
  have hl := tx'_len hd hh p h
  have hx : (mkS (tx' p)).length ≤ 10000000 := by rw [cs_len, cs_mk]; omega
  have e1 : callT (F_read_some fu_read_some) (eP planE D.int) [D.str (mkS (tx' p)), D.int 0] = pureT (p, ((tx' p).length : Int)) := callT_pure fun g => by
    have ih := T_read_some_eq hd hh (x := mkS (tx' p)) hx 29 p [] [] (by omega) h (by rw [cs_mk]; simp) rfl
    rw [List.nil_append] at ih
    exact S_read_some 29 _ _ (by
      have ih : T_read_some 29 (mkS (tx' p)) 0 = pureT (p, ((tx' p).length : Int)) := ih
      rw [ih]; rfl)
  have e2 : callT (F_looked_over fu_looked_over) (eP (eT D.str) D.int) [schP (dl, hs), planE p, D.int 0] = pureT (p.frame, 0 + (p.size : Int)) := callT_pure fun g => S_looked_over 29 _ p _ (by rw [T_looked_over_eq hd hh 29 p 0 (by omega) h]; rfl)
  have d1 : decide (((tx' p).length : Int) < ((tx' p).length : Int)) = false := decide_eq_false (by omega)
  have d2 : decide ((12 : Int) < 0 + (p.size : Int)) = false := decide_eq_false (by omega)
  unfold T_read_plan
  simp only [e1, bindT_pure, lenS_eq hx, cs_mk, opt_some, d1, Bool.false_eq_true, if_false, e2, d2]
  rfl)
end
end DL
namespace K54
open PySem PySem.Spec PyProof.Rows L2 DL
noncomputable def T_law : TM Bool :=
  (bindF (bindT (optT (rngT 14)) fun l44 => forF (fun i4 b3 => (bindT (callT F__law_scheme schP [eDk ()]) fun v5 => (bindT (callT F__law_plan planE [eDk (), schP v5]) fun v6 => (bindT (bindT (bindT (optT (l1 opRepr (eL eA [schP v5, planE v6]))) fun a9 => optT (unE D.str a9)) fun x10 => bindT (callT (F__law_text fu__law_text) D.str [planE v6]) fun y11 => pureT (x10, y11)) fun v7 => (bindT (bindT (bindT (bindT (bindT (bindT (callT (F_plan_text fu_plan_text) D.str [planE v6]) fun x14 => bindT (bindT (callT (F_plan_text fu_plan_text) D.str [planE v6]) fun x12 => bindT (pureT ()) fun y13 => pureT (x12, y13)) fun y15 => pureT (x14, y15)) fun a16 => pureT [a16.1, a16.2.1]) fun x17 => optT (l1 opRepr (eL D.str x17))) fun a18 => optT (unE D.str a18)) fun x21 => bindT (bindT (optT (l1 opRepr (eL D.str [v7.2, v7.2]))) fun a20 => optT (unE D.str a20)) fun y22 => optT (some (!eqB x21 y22))) fun b23 => if b23 = true then (bindT (pureT false) fun r43 => pureT (.rt r43)) else (bindT (bindT (bindT (bindT (bindT (bindT (callT F_read_plan planE [schP v5, D.str v7.2]) fun x26 => bindT (bindT (callT F_read_plan planE [schP v5, D.str v7.2]) fun x24 => bindT (pureT ()) fun y25 => pureT (x24, y25)) fun y27 => pureT (x26, y27)) fun a28 => pureT [a28.1, a28.2.1]) fun x29 => optT (l1 opRepr (eL planE x29))) fun a30 => optT (unE D.str a30)) fun x33 => bindT (bindT (optT (l1 opRepr (eL planE [v6, v6]))) fun a32 => optT (unE D.str a32)) fun y34 => optT (some (!eqB x33 y34))) fun b35 => if b35 = true then (bindT (pureT false) fun r42 => pureT (.rt r42)) else (bindT (bindT (bindT (optT (l1 opRepr (eL eA [schP v5, planE v6]))) fun a37 => optT (unE D.str a37)) fun x38 => bindT (pureT v7.1) fun y39 => optT (some (!eqB x38 y39))) fun b40 => if b40 = true then (bindT (pureT false) fun r41 => pureT (.rt r41)) else (pureT (.nx ()))))))))) l44 ()) fun v1 => (pureT true))
theorem S_law (g : Dk) (h : wpT T_law g fun b _ => b = true) : ∃ st' g', B_law lawSlots g = some (.rt (.bl true), st', g') := by
  obtain ⟨r, g', h, rfl⟩ := h
  have hb : JB [none, some (.sh (eDk ())), none, none, none, none, none] B_law T_law D.bl := by
    unfold T_law B_law
    exact (sb_seqF (sf_for (Γb := fun b3 => [none, some (.sh (eDk ())), none, none, none, none, none]) (Γab := fun i4 b3 => [none, some (.sh (eDk ())), some (.sh (D.int i4)), none, none, none, none]) (b0 := ()) (ea := D.int) (er := D.bl) (ei_range1V (EN.tk (en_c D.int 14 rfl))) (.n (.s (.n (.n (.n (.n (.n .nil))))))) (fun i4 b3 => (as_nm (lt_b rfl) rfl)) (fun i4 b3 => (sf_seq (sn_set (Γ1 := [none, some (.sh (eDk ())), some (.sh (D.int i4)), none, none, none, none]) (ea := schP) (Γ' := fun v5 => [none, some (.sh (eDk ())), some (.sh (D.int i4)), some (.sh (schP v5)), none, none, none]) (en_callV (ea_consV (EN.tk (en_var eDk () rfl)) ea_nil) rfl) (lt_b rfl) (fun _ => rfl)) (fun v5 => (sf_seq (sn_set (Γ1 := [none, some (.sh (eDk ())), some (.sh (D.int i4)), some (.sh (schP v5)), none, none, none]) (ea := planE) (Γ' := fun v6 => [none, some (.sh (eDk ())), some (.sh (D.int i4)), some (.sh (schP v5)), some (.sh (planE v6)), none, none]) (en_callV (ea_consV (EN.tk (en_var eDk () rfl)) (ea_consV (EN.tk (en_var schP v5 rfl)) ea_nil)) rfl) (lt_b rfl) (fun _ => rfl)) (fun v6 => (sf_seq (jn_par (Γ2 := [none, some (.sh (eDk ())), some (.sh (D.int i4)), some (.sh (schP v5)), some (.sh (planE v6)), none, none]) (ea := D.str) (eb := D.str) (Γ' := fun v7 => [none, some (.sh (eDk ())), some (.sh (D.int i4)), some (.sh (schP v5)), some (.sh (planE v6)), some (.sh (D.str v7.1)), some (.sh (D.str v7.2))]) (EN.cast (ec := D.str) (en_unP (f := (fun x8 => l1 opRepr (eL eA x8))) (ec := eA) (EN.pk (en_lstV (z := [schP v5, planE v6]) (ec := eL eA) (ea_consV (EN.tk (en_convV (ec := eA) (z := schP v5) (en_var schP v5 rfl) rfl)) (ea_consV (EN.tk (en_convV (ec := eA) (z := planE v6) (en_var planE v6 rfl) rfl)) ea_nil)) rfl (le_b rfl))) (o_l1 (e := eL eA)))) (en_callV (ea_consV (EN.tk (en_var planE v6 rfl)) ea_nil) rfl) (lt_b rfl) (lt_b rfl) (fun _ => rfl)) (fun v7 => (sf_ifret (eb_test (en_op (f := (fun x21 y22 => some (!eqB x21 y22))) (ec := D.bl) (EN.pk (EN.cast (ec := D.str) (en_un (f := (fun x17 => l1 opRepr (eL D.str x17))) (ec := eA) (EN.pk (en_lst (f := fun (a16 : Str × Str × Unit) => [a16.1, a16.2.1]) (ec := eL D.str) (ea_cons (EN.tk (en_callV (ea_consV (EN.tk (en_var planE v6 rfl)) ea_nil) rfl)) (ea_cons (EN.tk (en_callKV (ea_consV (EN.tk (en_var planE v6 rfl)) ea_nil) rfl)) ea_nil)) (fun _ => rfl) (fun _ => le_b rfl))) (o_l1 (e := eL D.str))))) (EN.pk (EN.cast (ec := D.str) (en_unP (f := (fun x19 => l1 opRepr (eL D.str x19))) (ec := eA) (EN.pk (en_lstV (z := [v7.2, v7.2]) (ec := eL D.str) (ea_consV (EN.tk (en_var D.str v7.2 rfl)) (ea_consV (EN.tk (en_var D.str v7.2 rfl)) ea_nil)) rfl (le_b rfl))) (o_l1 (e := eL D.str))))) (fun _ _ _ h => by cases h; exact (o_ne (e := D.str) _ _)))) (sb_ret (EN.tk (en_c D.bl false rfl))) (sf_ifret (eb_test (en_op (f := (fun x33 y34 => some (!eqB x33 y34))) (ec := D.bl) (EN.pk (EN.cast (ec := D.str) (en_un (f := (fun x29 => l1 opRepr (eL planE x29))) (ec := eA) (EN.pk (en_lst (f := fun (a28 : Plan × Plan × Unit) => [a28.1, a28.2.1]) (ec := eL planE) (ea_cons (EN.tk (en_callV (ea_consV (EN.tk (en_var schP v5 rfl)) (ea_consV (EN.tk (en_var D.str v7.2 rfl)) ea_nil)) rfl)) (ea_cons (EN.tk (en_callKV (ea_consV (EN.tk (en_var D.str v7.2 rfl)) (ea_consV (EN.tk (en_var schP v5 rfl)) ea_nil)) rfl)) ea_nil)) (fun _ => rfl) (fun _ => le_b rfl))) (o_l1 (e := eL planE))))) (EN.pk (EN.cast (ec := D.str) (en_unP (f := (fun x31 => l1 opRepr (eL planE x31))) (ec := eA) (EN.pk (en_lstV (z := [v6, v6]) (ec := eL planE) (ea_consV (EN.tk (en_var planE v6 rfl)) (ea_consV (EN.tk (en_var planE v6 rfl)) ea_nil)) rfl (le_b rfl))) (o_l1 (e := eL planE))))) (fun _ _ _ h => by cases h; exact (o_ne (e := D.str) _ _)))) (sb_ret (EN.tk (en_c D.bl false rfl))) (sf_if (eb_test (en_op (f := (fun x38 y39 => some (!eqB x38 y39))) (ec := D.bl) (EN.pk (EN.cast (ec := D.str) (en_unP (f := (fun x36 => l1 opRepr (eL eA x36))) (ec := eA) (EN.pk (en_lstV (z := [schP v5, planE v6]) (ec := eL eA) (ea_consV (EN.tk (en_convV (ec := eA) (z := schP v5) (en_var schP v5 rfl) rfl)) (ea_consV (EN.tk (en_convV (ec := eA) (z := planE v6) (en_var planE v6 rfl) rfl)) ea_nil)) rfl (le_b rfl))) (o_l1 (e := eL eA))))) (EN.pk (en_var D.str v7.1 rfl)) (fun _ _ _ h => by cases h; exact (o_ne (e := D.str) _ _)))) (sf_sb (sb_ret (EN.tk (en_c D.bl false rfl)))) (sf_sn0 (sn_next (b := ()) (.n (.s (.n (.n (.n (.n (.n .nil)))))))))))))))))))) (fun v1 => (sb_ret (EN.tk (en_c D.bl true rfl)))))
  obtain ⟨st', e⟩ := hb lawSlots g true g' ⟨rfl, fun i s e => e⟩ h
  exact ⟨st', g', e⟩
theorem good0 (hq : ∀ ns : List Int, ns.length ≤ 63 → wpT T_law (deck0 ns) fun b _ => b = true) : ∀ ns : List Int, ns.length ≤ 63 → ∃ st' g', B_law lawSlots (deck0 ns) = some (.rt (.bl true), st', g') := fun ns hl => S_law _ (hq ns hl)
def okL (l : List Nat) : Bool := l.all fun c => decide (c < 16 ^ 8)
theorem okL_app (a b : List Nat) : okL (a ++ b) = (okL a && okL b) := by simp [okL]
theorem okL_num (n : Nat) : okL (TL.numL n) = true := by
  simp only [okL, List.all_eq_true, decide_eq_true_eq]
  intro c hc
  have := TL.numL_digits n c hc
  exact Nat.lt_of_lt_of_le (show c < 58 by omega) (by decide)
theorem tx_ok {dl : List (Str × Str)} {hs : List (Str × List Str)} (hd : Dials dl) (hh : Heads dl hs) : ∀ p : Plan, PlanOk hs p → okL (tx' p) = true
  | .all t, h => by
    have h1 : okL (cs t) = true := (headNames_ok _ (name_head hh h)).1
    have h2 : okL (cs "all ") = true := by decide +kernel
    simp only [tx', okL_app, h1, h2, Bool.and_self]
  | .thin p c r, h => by
    have h1 : okL (cs c) = true := (colNames_ok _ (cols_name hd hh h.2.1)).1
    have h2 : okL (cs "thin(") = true := by decide +kernel
    have h3 : okL (cs ", ") = true := by decide +kernel
    have h4 : okL (cs "/") = true := by decide +kernel
    have h5 : okL (cs ")") = true := by decide +kernel
    simp only [tx', okL_app, h1, h2, h3, h4, h5, okL_num, tx_ok hd hh p h.1, Bool.and_self]
  | .two w p q, h => by
    have h1 : okL (cs w.nm) = true := by cases w <;> decide +kernel
    have h2 : okL (cs "(") = true := by decide +kernel
    have h3 : okL (cs ", ") = true := by decide +kernel
    have h5 : okL (cs ")") = true := by decide +kernel
    simp only [tx', okL_app, h1, h2, h3, h5, tx_ok hd hh p h.1, tx_ok hd hh q h.2.1, Bool.and_self]
theorem law_ok (g : Dk) (ok : Ok (2 ^ 63) g) : wpT T_law g fun b _ => b = true := by
  unfold T_law
  rw [rngT_lit 14 14, opt_some, bindT_pure, wp_bindF]
  refine forF_wp (fun k _ g => Ok (2 ^ 63 - 1000 * k) g) _ 0 () g ok (fun j a b g e ok => ?_) fun b g' _ => wp_pureI.mpr rfl
  have hj : j < 14 := by have := (List.getElem?_eq_some_iff.mp e).1; simpa using this
  rw [Nat.zero_add] at ok ⊢
  rw [wp_bind]
  refine w_scheme (n := 2 ^ 63 - 1000 * j - 60) (ok.mono (by omega)) fun dl hs g1 hd hh ok1 => ?_
  rw [wp_bind]
  refine w_plan (n := 2 ^ 63 - 1000 * j - 140) hd hh (ok1.mono (by omega)) fun p g2 hp hz ok2 => ?_
  have fp := plan_fi12 hd hh hp hz
  have hl := tx'_len hd hh p hp
  have ft : Fi 4000 0 (.str (mkS (tx' p))) := fi_str (tx_ok hd hh p hp) (by rw [cs_len, cs_mk]; omega)
  have us : ∀ s : Str, unE D.str (.str s) = some s := fun s => unE_eq (e := D.str)
  have eqs : ∀ s : Str, eqB s s = true := fun s => eqB_iff.mpr rfl
  have r1 : l1 opRepr (eL eA [schP (dl, hs), planE p]) = some (.str (D.lst [schP (dl, hs), planE p]).py.shown) := Fi.repr_list (N := 51600) (k := 13) (fun d hd' => by
    simp only [List.mem_cons, List.not_mem_nil, or_false] at hd'
    rcases hd' with rfl | rfl
    · exact (sch_fi hd hh).mono (by omega) (by omega)
    · exact fp) (by simp) (by omega) (by omega)
  have r2 : l1 opRepr (eL D.str [mkS (tx' p), mkS (tx' p)]) = some (.str (D.lst [.str (mkS (tx' p)), .str (mkS (tx' p))]).py.shown) := Fi.repr_list (l := [.str (mkS (tx' p)), .str (mkS (tx' p))]) (N := 4000) (k := 0) (fun d hd' => by
    simp only [List.mem_cons, List.not_mem_nil, or_false] at hd'
    rcases hd' with rfl | rfl <;> exact ft) (by simp) (by omega) (by omega)
  have r3 : l1 opRepr (eL planE [p, p]) = some (.str (D.lst [planE p, planE p]).py.shown) := Fi.repr_list (l := [planE p, planE p]) (N := 51600) (k := 13) (fun d hd' => by
    simp only [List.mem_cons, List.not_mem_nil, or_false] at hd'
    rcases hd' with rfl | rfl <;> exact fp) (by simp) (by omega) (by omega)
  simp only [r1, us, opt_some, bindT_pure, bindT_bind, c_lawText hd hh (show p.size ≤ 30 by omega) hp, c_planText hd hh (show p.size ≤ 30 by omega) hp, r2, eqs, Bool.not_true, Bool.false_eq_true, if_false, c_readPlan hd hh hz hp, r3]
  exact wp_pureI.mpr (ok2.mono (by omega))
theorem good : ∀ ns : List Int, ns.length ≤ 63 → ∃ st' g', B_law lawSlots (deck0 ns) = some (.rt (.bl true), st', g') := good0 fun ns _ => law_ok _ (deck0_ok ns)
end K54
theorem PySem.Challenge.cw_keyrates_k54_texts_of_plans_holds : PySem.Challenge.rw_keyrates_k54_texts_of_plans.Holds := by
  exact K54.holds K54.good
