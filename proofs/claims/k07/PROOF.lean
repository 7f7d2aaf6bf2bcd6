import PyProof.Rows.All
import Wide.All
import OpenK.AllK
import Wide.FinOn
import HandS.ForMost
import HandS.TupAny
import KE.KDictPairs
import KE.KeyNested
import HandS.Style
import HandS.Flow
import HandS.Zip
import HandS.TupSets
import KE.SortData
import HandS.Wide
import KE.DataEq
import KE.DataCmp
import KE.DataIsa
import HandS.IsInst
import HandS.WordsDict
import HandS.More
import PyProof.AutoSeq1
import HandS.List
import HandS.Dict
import PyProof.ReprRoads
import PyProof.CallFns
import HandS.HeadEnd
import HandS.HeadHook2
import HandS.Defaults
import HandS.Words
import HandS.Head0
import HandS.Head1
import HandS.Head2
import HandS.HeadHook1
import KE.KStateDown
import HandS.WordsExc
import HandS.Keys
import PyProof.StrLawsRepr
import PyProof.FitsInt
import HandS.TupMul
import HandS.ListItems
import HandS.Strs
import HandS.NoneIn
import KE.KDictZip
import HandS.Small
import HandS.Conv
import KE.KDictKeyed
import PyProof.DictRoadsH
import HandS.DictComp
import PyProof.Draws
import KE.GoesMore
import PySem.Challenge.RW_keyrates_k07_full_rows_and_parts
set_option Elab.async false
set_option linter.all false
set_option maxRecDepth 100000
set_option maxHeartbeats 8000000
/-! DY: tuples that are known to have no dict of their own. -/
namespace DY
open PySem PySem.Spec PyProof.Rows L2
/-- a tuple, known to its object, which has no dict -/
def TupP (K : PySem.W.Frag) (P : Hp) (a : Addr) (xs : List V) : Prop :=
  (∃ o, P a = some (.frz o (.tup xs)) ∧ o.dict = none) ∨ ∃ (o : Obj) (its : Array Value) (n : Nat), K.lookup a = some o ∧ o.cls = .type "tuple" ∧ o.dict = none ∧ o.data = .seq its n ∧ its.size ≤ sizeLine ∧ Vals xs its.toList
theorem TupP.sq {K : PySem.W.Frag} {P : Hp} {a : Addr} {xs : List V} (h : TupP K P a xs) : SqT K P a xs := by
  rcases h with ⟨o, h, _⟩ | ⟨o, its, n, h1, h2, _, h3⟩
  · exact .inl (.inr ⟨o, h⟩)
  · exact .inr ⟨o, its, n, h1, h2, h3⟩
theorem TupP.mono {K : PySem.W.Frag} {P P' : Hp} {a : Addr} {xs : List V} (h : TupP K P a xs) (s : ∀ a o, P a = some o → P' a = some o) : TupP K P' a xs :=
  h.imp (fun ⟨o, h1, h2⟩ => ⟨o, s _ _ h1, h2⟩) id
theorem TupP.new {K : PySem.W.Frag} {P : Hp} {a : Addr} {xs : List V} {o : Obj} (h : P a = some (.frz o (.tup xs))) (hd : o.dict = none) : TupP K P a xs := .inl ⟨o, h, hd⟩
section
variable {X : Cx} {pins : List (Addr × Obj)} {σ : L2.St} {H : Hp} {s : Shared}
theorem plain_of {a : Addr} {xs : List V} (I : Inv X pins σ H s) (h : TupP X.K H a xs) : ∃ its : List Value, Vals xs its ∧ PlainSeq "tuple" s.heap a its.toArray ∧ xs.length ≤ sizeLine := by
  rcases h with ⟨o, h1, h2⟩ | ⟨o, its, n, h1, h2, h3, h4, h5, h6⟩
  · obtain ⟨e, hz, its, r, o', e', hc, n, hd⟩ := I.hok a _ h1
    rw [e] at e'; cases e'
    exact ⟨its, r, ⟨o, n, e, hc, h2, hd⟩, hz⟩
  · refine ⟨its.toList, h6, ⟨o, n, I.kIn a o h1, h2, h3, by simpa using h4⟩, ?_⟩
    rw [h6.length, Array.length_toList]; exact h5
/-- a new tuple -/
abbrev NewT (H : Hp) (xs : List V) (Q : VK) : Prop := ∀ (p : Addr) (o : Obj), H p = none → o.dict = none → Q (.ref p) (upd H p (.frz o (.tup xs)))
theorem laidT {xs : List V} {its : List Value} {h' : Heap} {tk : Nat} {Q : VK} (I : Inv X pins σ H { s with heap := h', toks := tk }) (r : Vals xs its) (hz : xs.length ≤ sizeLine) (q : NewT H xs Q) :
    EP X pins σ Q (.ref h'.objs.size) { s with heap := h'.push { cls := .type "tuple", data := .seq its.toArray }, toks := tk } := by
  have hf : H h'.objs.size = none := I.hok.fresh (Nat.le_refl _)
  refine ⟨.ref h'.objs.size, upd H h'.objs.size (.frz { cls := .type "tuple", data := .seq its.toArray } (.tup xs)), I.laid (t' := tk) (fun b u e => Heap.get?_push_of_some _ e) (Nat.le_refl _) ?_, rfl, q _ _ hf rfl⟩
  exact ⟨Heap.get?_push_size _ rfl, hz, its, r, ⟨_, Heap.get?_push_size _ rfl, rfl, _, rfl⟩⟩
variable {es : List Expr} {t : TA} {pos : Pos}
def tTupF (t : TA) : TE := fun σ H Q => t σ H fun xs H1 => xs.length ≤ sizeLine ∧ NewT H1 xs Q
theorem pe_tupF {k : Nat} (h : PA X es t) : PE X (.Tuple es k pos) (tTupF t) := by
  refine ⟨fun pins s σ H Q I hq => wpAny_Tuple_spliced (thn (h.run pos pins s σ H _ I hq) fun us s1 ⟨xs, H1, I1, r, z, q⟩ => ⟨by rw [← r.length]; exact z, ?_⟩)⟩
  exact laidT (s := s1) (h' := s1.heap) (tk := s1.toks) I1 r z q
/-- tuple(x) -/
def rTupleF (K : PySem.W.Frag) : List V → Hp → VK → Prop := fun vs H Q => ∃ p ys, vs = [.ref p] ∧ ((SqL K H p ys ∧ NewT H ys Q) ∨ (SqT K H p ys ∧ Q (.ref p) H))
theorem cr_tupleF : CallR X (.type "tuple") (rTupleF X.K) := by
  intro pins s σ H vs us Q I r h
  obtain ⟨p, ys, rfl, h⟩ := h
  obtain rfl := Vals.ref1 r
  rcases h with ⟨hq, q⟩ | ⟨hq, q⟩
  · obtain ⟨its, r', pl, hz⟩ := I.list hq
    refine call_tuple_list pl.isList (fun h' kp => laidT (h' := h') (tk := s.toks) (I.kept (t' := s.toks) kp) r' hz q) (by have := r'.length; simp only [List.size_toArray]; omega)
  · obtain ⟨its, r', pl, hz⟩ := I.tuple hq
    exact call_tuple_same pl ⟨.ref p, H, I, rfl, q⟩
/-- t + u -/
def rCatF (K : PySem.W.Frag) : R2 := fun x y H Q => ∃ a b xs ys, x = .ref a ∧ y = .ref b ∧ SqT K H a xs ∧ SqT K H b ys ∧ xs.length + ys.length ≤ sizeLine ∧
  (xs = [] → Q (.ref b) H) ∧ (xs ≠ [] → ys = [] → Q (.ref a) H) ∧ (xs ≠ [] → ys ≠ [] → NewT H (xs ++ ys) Q)
theorem op_catF : OpR X (binaryOp .Add) (rCatF X.K) := by
  intro pins s σ H x y v u Q I rx ry h
  obtain ⟨a, b, xs, ys, rfl, rfl, ha, hb, hz, q0, q1, q2⟩ := h
  obtain rfl : v = .ref a := rx
  obtain rfl : u = .ref b := ry
  obtain ⟨its, r1, p1, _⟩ := I.tuple ha
  obtain ⟨its2, r2, p2, _⟩ := I.tuple hb
  by_cases hx : xs = []
  · subst hx
    obtain rfl := Vals.zero r1
    exact cat_tup0 p1 p2 ⟨.ref b, H, I, rfl, q0 rfl⟩
  · have hv : its ≠ [] := fun e => hx ((Vals.nil_iff r1).mp e)
    refine HT.cat_tup p1 p2 hv (fun e => ⟨.ref a, H, I, rfl, q1 hx ((Vals.nil_iff r2).mp e)⟩) (fun e => ?_) (by rw [← r1.length, ← r2.length]; exact hz)
    exact laidT (h' := s.heap) (tk := s.toks) I (r1.append r2) (by simpa using hz) (q2 hx fun z => e ((Vals.nil_iff r2).mpr z))
/-- t[lo:hi] -/
def rSlF (K : PySem.W.Frag) : V → Option Int → Option Int → Hp → VK → Prop := fun x lo hi H Q => ∃ a xs, x = .ref a ∧ SqT K H a xs ∧
  (HT.sIx xs.length 0 lo = 0 ∧ HT.sIx xs.length xs.length hi = xs.length → Q (.ref a) H) ∧ (¬ (HT.sIx xs.length 0 lo = 0 ∧ HT.sIx xs.length xs.length hi = xs.length) → NewT H (cutV xs lo hi) Q)
theorem sl_tupF : SlR X (rSlF X.K) := by
  intro pins s σ H x v vl vu lo hi sl Q I rx hs pl pu h
  obtain ⟨a, xs, rfl, hx, q1, q2⟩ := h
  obtain rfl : v = .ref a := rx
  obtain ⟨its, r, ht, hz⟩ := I.tuple hx
  have hlen : its.toArray.size = xs.length := by rw [List.size_toArray]; exact r.length.symm
  refine ⟨"tuple", _, PyProof.Rows.slot_tuple_getitem.lookup, ht.typeIs, ?_⟩
  by_cases hw : HT.sIx xs.length 0 lo = 0 ∧ HT.sIx xs.length xs.length hi = xs.length
  · exact getItem_tuple_whole ht hs pl pu (by rw [hlen]; exact hw) ⟨.ref a, H, I, rfl, q1 hw⟩
  · refine HT.getItem_tuple_cut ht hs pl pu (by rw [hlen]; exact hw) ?_ (by rw [hlen]; exact hz)
    rw [hlen]
    have e : (its.toArray.toList.drop (HT.sIx xs.length 0 lo)).take (HT.sIx xs.length xs.length hi - HT.sIx xs.length 0 lo) = (its.drop (HT.sIx xs.length 0 lo)).take (HT.sIx xs.length xs.length hi - HT.sIx xs.length 0 lo) := rfl
    rw [e]
    exact laidT (h' := s.heap) (tk := s.toks) I ((r.drop _).take _) (Nat.le_trans (cutV_length xs lo hi) hz) (q2 hw)
end
end DY
/-! DZ: promises of defs that are called where no repr runs. -/
namespace DZ
open PySem PySem.Spec PyProof.Rows L2
/-- as FnOk, where the guards of repr are free -/
structure FnG (P : Program) (w : World) (K : PySem.W.Frag) (mg : Str → Option Value) (base : Heap) (CX : CXT) (k : Nat) (f : Addr) (fd : FuncData) (ps : List Str) (sp : Sp) : Prop where
  len : ∀ vs H Q E, sp vs H Q E → vs.length = ps.length
  run : ∀ (A : Around) (outer : List Env) (s : Shared) (H : Hp) (args : Args) (us : List Value) (vs : List V) (Q : VK) (E : XK), Room k A → A.guards = some [] → Env0 P w K mg base A outer s H →
    BindsTo s fd args (ps.zip us) → Vals vs us → sp vs H Q E → codeAny (model P w) A (.call (.ref f) args) (CR CX outer P w H s Q E) s
section
variable {P : Program} {w : World} {K : PySem.W.Frag} {mg : Str → Option Value} {base : Heap} {CX : CXT} {j k : Nat} {f : Addr} {fd : FuncData} {ps : List Str} {sp sp' : Sp}
theorem FnG.mono (F : FnG P w K mg base CX j f fd ps sp) (h : j ≤ k) : FnG P w K mg base CX k f fd ps sp := ⟨F.len, fun A o s H a us vs Q E hr hg => F.run A o s H a us vs Q E (hr.mono h) hg⟩
theorem FnG.imp (F : FnG P w K mg base CX k f fd ps sp) (h : ∀ vs H Q E, sp' vs H Q E → sp vs H Q E) : FnG P w K mg base CX k f fd ps sp' :=
  ⟨fun vs H Q E q => F.len vs H Q E (h _ _ _ _ q), fun A o s H a us vs Q E hr hg e0 b r q => F.run A o s H a us vs Q E hr hg e0 b r (h _ _ _ _ q)⟩
theorem fnG_of {x qual : Str} {stm : Stmt} {N : List Str} (F : Fun K x qual stm f fd) (Sc : FnScope N ps (defScope stm)) (len : ∀ vs H Q E, sp vs H Q E → vs.length = ps.length)
    (hbody : ∀ (cdv : Value) (A : Around) (outer : List Env) (s : Shared) (H : Hp) (vs : List V) (Q : VK) (E : XK), Room k (A.deeper (envOfC qual (defScope stm) s.heap.objs.size f cdv)) → A.guards = some [] → sp vs H Q E →
      ∃ t, PSs (cxOf CX P w K mg base N qual (defScope stm) f cdv A outer s H E) (defBody stm) t ∧ t { nx := fun _ H' => Q .non H', rt := Q } (L2.start N vs) H) : FnG P w K mg base CX (k + 1) f fd ps sp := by
  obtain ⟨oc, od, kV, doc, pm, an, cdv, ct, osl, rfl, lk, hcd⟩ := F.ex
  refine ⟨len, fun A outer s H args us vs Q E hr hgd e0 hb r hsp => ?_⟩
  have up : ∀ b o, base.get? b = some o → s.heap.get? b = some o := fun b o e => (e0.bs b o e).1
  have KX : K.In s.heap := e0.mod.kin.keeps up
  obtain ⟨t, ht, hq⟩ := hbody cdv A outer s H vs Q E (hr.deeper _) hgd hsp
  refine codeAny_call_function hr.depth (KX _ _ lk) rfl Sc.co Sc.gen rfl (PySem.W.codeRec_of KX hcd) (hb _ _ _ _ (wpAny_newFunctionEnv_cells Sc.kind (fun ⟨n, v⟩ hy => ?_) fun env he s1 x => ?_))
  · rcases Sc.par n (List.of_mem_zip hy).1 with q | q
    · left; exact q
    · right; exact ⟨q, PySem.W.cellsFrom_some _ _ _ (.inl q)⟩
  · subst he
    refine ⟨(e0.mod.nolimit.keeps up).keeps x.toInCall.keep, codeAny_func (wpAny_mono (ht.run [] s1 (L2.start N vs) H _ (inv_start Sc hr.hd e0 (len _ _ _ _ hsp) r x) hq) (fun fl s' hs => ?_) fun e s' hs => hs)⟩
    cases fl with
    | ret u => obtain ⟨v, σ', H', J, rv, q⟩ := hs; exact ⟨v, H', J.os, J.bare, J.base, J.hok, rv, q⟩
    | next => obtain ⟨σ', H', J, q⟩ := hs; exact ⟨V.non, H', J.os, J.bare, J.base, J.hok, rfl, q⟩
    | brk => obtain ⟨_, _, _, q⟩ := hs; exact q.elim
    | cont => obtain ⟨_, _, _, q⟩ := hs; exact q.elim
end
section
variable {X : Cx} {CX : CXT} {k : Nat} {f : Addr} {fd : FuncData} {ps ks : List Str} {sp : Sp} {E : XK} {x : Str} {p pos : Pos} {e : Expr} {es : List Expr} {t tk : TA} {kws : List Keyword}
theorem pe_callG (F : FnG X.prog X.w X.K X.mg X.base CX k f fd ps sp) (hr : Room k X.A) (hgd : X.A.guards = some []) (hg : Gl X x) (hm : X.mg x = some (.ref f)) (hk : PySem.W.keepIn X.K (.ref f) = true) (hb : Binds X.K fd ps []) (hx : Passes CX X E)
    (ha : PA X (e :: es) t) (hdb : (x == ("__debug__" : Str)) = false) (he : starEach (e :: es) X.env = (false, eval e X.env) :: starEach es X.env) (hpl : (backTo pos (starEach es X.env)).any (·.1) = false) :
    PE X (.Call (.Name x p) (e :: es) [] pos) (fun σ H Q => t σ H fun vs H1 => sp vs H1 Q E) := by
  refine ⟨fun pins s σ H Q I h => wpAny_Call_Name_kw (ld_glob I hg hm (PySem.W.callWith_K (h₀ := X.base) I.ok.mod.kin hk (thn (ha.run pos pins s σ H _ I h) fun us s1 ⟨vs, H1, I1, r, q⟩ => ⟨I1.kIn, ?_⟩) he hpl) hdb)⟩
  have hl : us.length = ps.length := r.length.symm.trans (F.len _ _ _ _ q)
  have hbt := hb s1 us I1.kIn (by rw [List.append_nil]; exact hl)
  rw [List.append_nil] at hbt
  refine wpAny_call (codeAny_mono (F.run X.A X.stack s1 H1 ⟨us, []⟩ us vs Q E hr hgd I1.env0 hbt r q) fun r s' hq => ?_)
  cases r with
  | error er => exact hx pins σ H1 s1 er s' I1 hq
  | ok fl =>
    cases fl with
    | ret u => exact I1.after hq
    | _ => exact hq.elim
/-- f(a=..., b=...): all by names -/
theorem pe_callGK {g : List Value → List Value} {gV : List V → List V} (F : FnG X.prog X.w X.K X.mg X.base CX k f fd ps sp) (hr : Room k X.A) (hgd : X.A.guards = some []) (hg : Gl X x) (hm : X.mg x = some (.ref f)) (hk : PySem.W.keepIn X.K (.ref f) = true)
    (hb : ∀ (s : Shared) (ws : List Value), X.K.In s.heap → (g ws).length = ps.length → BindsTo s fd ⟨[], ks.zip ws⟩ (ps.zip (g ws))) (hrel : ∀ {zs : List V} {ws : List Value}, Vals zs ws → Vals (gV zs) (g ws)) (hx : Passes CX X E)
    (hkw : PK X kws tk) (hall : (backToKw pos (keywordEach kws X.env)).all (·.1.isSome) = true) (hks : (backToKw pos (keywordEach kws X.env)).filterMap (·.1) = ks) (hdb : (x == ("__debug__" : Str)) = false)
    (hpl : ((backTo pos (starEach [] X.env)).any (·.1) || (backToKw pos (keywordEach kws X.env)).any (·.1.isNone)) = false) (hne : kws ≠ []) :
    PE X (.Call (.Name x p) [] kws pos) (fun σ H Q => tk σ H fun zs H1 => sp (gV zs) H1 Q E) := by
  refine ⟨fun pins s σ H Q I h => wpAny_Call_Name_kw (ld_glob I hg hm (PySem.W.callWith_KW0 (h₀ := X.base) I.ok.mod.kin hk hall (thn (hkw.run pos pins s σ H _ I h) fun ws s1 ⟨zs, H1, I1, r, q⟩ => ⟨I1.kIn, ?_⟩) hpl) hdb)⟩
  rw [hks]
  have r2 := hrel r
  have hl : (g ws).length = ps.length := r2.length.symm.trans (F.len _ _ _ _ q)
  refine wpAny_call (codeAny_mono (F.run X.A X.stack s1 H1 ⟨[], ks.zip ws⟩ (g ws) (gV zs) Q E hr hgd I1.env0 (hb s1 ws I1.kIn hl) r2 q) fun r s' hq => ?_)
  cases r with
  | error er => exact hx pins σ H1 s1 er s' I1 hq
  | ok fl =>
    cases fl with
    | ret u => exact I1.after hq
    | _ => exact hq.elim
end
/-- the law's call, where the script is the one thing that is tracked -/
theorem law_callG {P : Program} {w : World} {K : PySem.W.Frag} {mg mb : Str → Option Value} {k : Nat} {fa a : Addr} {fd : FuncData} {x : Str} {sp : Sp} {s₁ : Shared} {vs : List Value} {ns : List Int}
    (KX : K.In s₁.heap) (hns : s₁.heap.Ns mainGlobals mg) (hb : s₁.heap.Ns builtinsNs mb) (hbb : ∀ x : Str, x ≠ "__name__" → mb x = bootBuiltins x) (hlim : s₁.heap.NoLimit) (hg : s₁.gens = #[])
    (ha : s₁.heap.get? a = some { cls := .type "list", data := .seq vs.toArray }) (hi : IntsAre vs ns) (hl : ns.length ≤ sizeLine) (hr : Room k callerA)
    (F : ∀ base : Heap, K.In base → base.Ns mainGlobals mg → FnG P w K mg base CX0 k fa fd [x] sp) (hbind : ∀ (s : Shared) (u : Value), BindsTo s fd ⟨[u], []⟩ [(x, u)])
    (hsp : ∀ H : Hp, Only H → SqL K H a (ns.map V.int) → sp [.ref a] H (fun v _ => v = .bl true) fun _ _ _ => False) :
    codeAny (model P w) callerA (.call (.ref fa) ⟨[.ref a], []⟩) (fun r s' => r = .ok (.ret (.bool true)) ∧ OldK s₁.heap s'.heap ∧ s'.os = s₁.os ∧ AllBare s'.gens) s₁ := by
  have rv := vals_ints hi
  have core : ∀ H : Hp, Only H → SqL K H a (ns.map V.int) → HOk P w H s₁.heap → (∀ b, H b ≠ none → b = a) → (H a ≠ none → K.lookup a = none) →
      codeAny (model P w) callerA (.call (.ref fa) ⟨[.ref a], []⟩) (fun r s' => r = .ok (.ret (.bool true)) ∧ OldK s₁.heap s'.heap ∧ s'.os = s₁.os ∧ AllBare s'.gens) s₁ := by
    intro H hO hS hok hA hK
    have noA : ∀ {b : Addr} {o : Obj} {es : Array DictEntry} {ep : Nat}, s₁.heap.get? b = some o → o.data = .dict es ep → H b = none := fun {b o es ep} e d => by
      cases q : H b with
      | none => rfl
      | some u =>
        obtain rfl : b = a := hA b (by rw [q]; simp)
        rw [ha] at e; cases e; cases d
    have nsK : ∀ {b : Addr} {m : Str → Option Value}, s₁.heap.Ns b m → (hidT s₁.heap H).Ns b m := fun {b m} ⟨o, es, ep, e, d, r⟩ => ⟨o, es, ep, hidT_get e (noA e d), d, r⟩
    have hKb : K.In (hidT s₁.heap H) := fun b o e => hidT_get (KX b o e) (by
      cases q : H b with
      | none => rfl
      | some u =>
        obtain rfl : b = a := hA b (by rw [q]; simp)
        rw [hK (by rw [q]; simp)] at e; cases e)
    have hM : Mod K mg (hidT s₁.heap H) := ⟨hKb, nsK hns, ⟨mb, nsK hb, hbb⟩, let ⟨mc, h1, h2⟩ := hlim; ⟨mc, nsK h1, h2⟩⟩
    have e0 : Env0 P w K mg (hidT s₁.heap H) callerA [] s₁ H := ⟨rfl, hM, fun b o e => of_hidT e, Nat.le_of_eq (hidT_size _ _), trivial, (fun b hb => by simp [frs] at hb), hok, .of_eq hg⟩
    refine codeAny_mono ((F _ hKb (nsK hns)).run callerA [] s₁ H ⟨[.ref a], []⟩ [.ref a] [.ref a] _ _ hr rfl e0 (hbind s₁ (.ref a)) (.cons rfl .nil) (hsp H hO hS)) fun r s' h => ?_
    cases r with
    | error e => exact h.elim
    | ok fl =>
      cases fl with
      | ret u =>
        obtain ⟨v, H', os, bare, un, hok', r', q⟩ := h
        obtain rfl : v = .bl true := q
        obtain rfl : u = Value.bool true := r'
        refine ⟨rfl, OldK.of_keep fun b o e => ?_, os, bare⟩
        rcases hO b with z | ⟨ob, xs, z⟩
        · exact un.keep b o e z (by simp [frs]) (by simp)
        · obtain ⟨e1, _⟩ := hok b _ z
          rw [e] at e1; cases e1
          exact (hok' b _ (un.frzs b _ _ z)).1
      | _ => exact h.elim
  cases hk : K.lookup a with
  | some o =>
    have e := KX a o hk
    rw [ha] at e
    cases e
    exact core (fun _ => none) (fun _ => .inl rfl) (.inr ⟨_, vs.toArray, _, hk, rfl, rfl, rfl, by rw [List.size_toArray, hi.length]; exact hl, by simpa using rv⟩) (fun b u z => by cases z) (fun b z => absurd rfl z) fun z => absurd rfl z
  | none =>
    refine core (fun b => if b = a then some (.frz { cls := .type "list", data := .seq vs.toArray } (.lst (ns.map V.int))) else none) (fun b => ?_) (.inl (.inr ⟨{ cls := .type "list", data := .seq vs.toArray }, if_pos rfl⟩)) (fun b u z => ?_) (fun b z => ?_) fun _ => hk
    · by_cases h : b = a
      · right; exact ⟨_, _, if_pos h⟩
      · left; exact if_neg h
    · by_cases h : b = a
      · cases (if_pos h).symm.trans z
        subst h
        exact ⟨ha, by rw [List.length_map]; exact hl, vs, _, rv, ha⟩
      · cases (if_neg h).symm.trans z
    · exact Classical.byContradiction fun h => z (if_neg h)
end DZ
/-! DL: data as trees over the hand layer. -/
namespace DL
open PySem PySem.Spec L2
/-- a datum -/
inductive D where
  | non | bl (b : Bool) | int (i : Int) | str (x : Str)
  | tup (xs : List D) | lst (xs : List D) | dct (kvs : List (D × D)) | dcn (kvs : List (D × D)) | obj (n : Nat)
/-- the world of mutable things that several defs share -/
structure Wd (G : Type) where
  fp : Addr → Prop
  holds : G → Hp → Prop
  ref : Nat → V
  pw : World
  loc : ∀ (g : G) (H H' : Hp), holds g H → (∀ a, fp a → H' a = H a) → holds g H'
  there : ∀ (g : G) (H : Hp) (a : Addr), holds g H → fp a → H a ≠ none
def kD : Key → D
  | .inl i => .int i
  | .inr x => .str x
variable {G : Type}
/-- a dict's object -/
def IsDK (o : HO) (kvs : List (Key × V)) : Prop := o = .dK kvs ∨ ∃ ob, o = .frz ob (.dK kvs)
theorem IsDK.rd {o : HO} {kvs : List (Key × V)} {H : Hp} {a : Addr} (h : IsDK o kvs) (e : H a = some o) : Rd H a (.dK kvs) := by
  rcases h with rfl | ⟨ob, rfl⟩
  · exact .inl e
  · exact .inr ⟨ob, e⟩
/-- a dict, locked or not -/
def DObj (o : HO) (ks : List (D × V)) : Prop := ∃ kvs : List (Key × V), IsDK o kvs ∧ ks = kvs.map fun p => (kD p.1, p.2)
/-- a dict that is not locked -/
def DObjK (o : HO) (ks : List (D × V)) : Prop := ∃ kvs : List (Key × V), o = .dK kvs ∧ ks = kvs.map fun p => (kD p.1, p.2)
theorem DObjK.any {o : HO} {ks : List (D × V)} (h : DObjK o ks) : DObj o ks := let ⟨kvs, e, z⟩ := h; ⟨kvs, .inl e, z⟩
mutual
/-- a key of any depth -/
def nkD : D → Option NestedKey
  | .int i => some (.num i)
  | .str x => some (.text x)
  | .tup ds => (nksD ds).map NestedKey.tup
  | _ => none
def nksD : List D → Option (List NestedKey)
  | [] => some []
  | d :: ds => match nkD d, nksD ds with
    | some k, some ks => some (k :: ks)
    | _, _ => none
end
/-- a dict at a whose keys are tuples: its entries -/
def nDictO (w : World) (a : Addr) (xs : List (NestedKey × Addr × Value)) : HO := .ext fun h => (a == sysModules) = false ∧ xs.length ≤ sizeLine ∧ (xs.map (·.1)).Nodup ∧ ∃ o es ep, h.get? a = some o ∧ o.ExactDict ∧ o.data = .dict es ep ∧ es.toList = xs.map fun x => (⟨x.1.hash w, .ref x.2.1, x.2.2⟩ : DictEntry)
def IsDN (w : World) (a : Addr) (o : HO) (xs : List (NestedKey × Addr × Value)) : Prop := o = nDictO w a xs ∨ ∃ ob, o = .frz ob (nDictO w a xs)
mutual
/-- v stands for d, by things of P -/
def Rep (K : PySem.W.Frag) (W : Wd G) (P : Hp) : D → V → Prop
  | .non, v => v = .non
  | .bl b, v => v = .bl b
  | .int i, v => v = .int i
  | .str x, v => v = .str x
  | .tup ds, v => ∃ a xs, v = .ref a ∧ DY.TupP K P a xs ∧ ds.length ≤ sizeLine ∧ Reps K W P ds xs
  | .lst ds, v => ∃ a xs, v = .ref a ∧ P a = some (.lst xs) ∧ ds.length ≤ sizeLine ∧ Reps K W P ds xs
  | .dct kvs, v => ∃ a o ks, v = .ref a ∧ P a = some o ∧ DObj o ks ∧ Repk K W P kvs ks
  | .dcn kvs, v => ∃ a o xs, v = .ref a ∧ P a = some o ∧ IsDN W.pw a o xs ∧ Repn K W P kvs xs
  | .obj n, v => v = W.ref n
def Reps (K : PySem.W.Frag) (W : Wd G) (P : Hp) : List D → List V → Prop
  | [], vs => vs = []
  | d :: ds, vs => ∃ v r, vs = v :: r ∧ Rep K W P d v ∧ Reps K W P ds r
def Repk (K : PySem.W.Frag) (W : Wd G) (P : Hp) : List (D × D) → List (D × V) → Prop
  | [], vs => vs = []
  | (k, d) :: ds, vs => ∃ v r, vs = (k, v) :: r ∧ Rep K W P d v ∧ Repk K W P ds r
def Repn (K : PySem.W.Frag) (W : Wd G) (P : Hp) : List (D × D) → List (NestedKey × Addr × Value) → Prop
  | [], xs => xs = []
  | (k, d) :: ds, xs => ∃ nk b u v r, xs = (nk, b, u) :: r ∧ nkD k = some nk ∧ nk.depth ≤ 8 ∧ Rep K W P k (.ref b) ∧ RelV v u ∧ Rep K W P d v ∧ Repn K W P ds r
end
/-- a tuple that is only taken apart; else as Rep -/
def RepA (K : PySem.W.Frag) (W : Wd G) (P : Hp) : D → V → Prop
  | .tup ds, v => ∃ a xs, v = .ref a ∧ SqT K P a xs ∧ Reps K W P ds xs
  | _, _ => False
def RepF (K : PySem.W.Frag) (W : Wd G) (P : Hp) (A : Bool) (d : D) (v : V) : Prop := if A = true then RepA K W P d v else Rep K W P d v
def Sub (P H : Hp) : Prop := ∀ a o, P a = some o → H a = some o
theorem Sub.refl (P : Hp) : Sub P P := fun _ _ h => h
theorem Sub.trans {P Q R : Hp} (a : Sub P Q) (b : Sub Q R) : Sub P R := fun x o h => b x o (a x o h)
theorem Sub.rd {P H : Hp} (s : Sub P H) {a : Addr} {o : HO} (r : Rd P a o) : Rd H a o := by
  rcases r with r | ⟨u, r⟩
  · exact .inl (s _ _ r)
  · exact .inr ⟨u, s _ _ r⟩
theorem Sub.sqT {P H : Hp} (s : Sub P H) {K : PySem.W.Frag} {a : Addr} {xs : List V} (r : SqT K P a xs) : SqT K H a xs := r.imp s.rd id
mutual
theorem Rep.mono {K : PySem.W.Frag} {W : Wd G} {P P' : Hp} (s : Sub P P') : ∀ (d : D) (v : V), Rep K W P d v → Rep K W P' d v
  | .non, _, h => by simpa only [Rep] using h
  | .bl _, _, h => by simpa only [Rep] using h
  | .int _, _, h => by simpa only [Rep] using h
  | .str _, _, h => by simpa only [Rep] using h
  | .obj _, _, h => by simpa only [Rep] using h
  | .tup ds, v, h => by
    simp only [Rep] at h ⊢
    obtain ⟨a, xs, e, q, z, r⟩ := h
    exact ⟨a, xs, e, q.mono s, z, Reps.mono s ds xs r⟩
  | .lst ds, v, h => by
    simp only [Rep] at h ⊢
    obtain ⟨a, xs, e, q, z, r⟩ := h
    exact ⟨a, xs, e, s _ _ q, z, Reps.mono s ds xs r⟩
  | .dct kvs, v, h => by
    simp only [Rep] at h ⊢
    obtain ⟨a, o, ks, e, q, z, r⟩ := h
    exact ⟨a, o, ks, e, s _ _ q, z, Repk.mono s kvs ks r⟩
  | .dcn kvs, v, h => by
    simp only [Rep] at h ⊢
    obtain ⟨a, o, xs, e, q, z, r⟩ := h
    exact ⟨a, o, xs, e, s _ _ q, z, Repn.mono s kvs xs r⟩
theorem Reps.mono {K : PySem.W.Frag} {W : Wd G} {P P' : Hp} (s : Sub P P') : ∀ (ds : List D) (vs : List V), Reps K W P ds vs → Reps K W P' ds vs
  | [], _, h => by simpa only [Reps] using h
  | d :: ds, vs, h => by
    simp only [Reps] at h ⊢
    obtain ⟨v, r, e, h1, h2⟩ := h
    exact ⟨v, r, e, Rep.mono s d v h1, Reps.mono s ds r h2⟩
theorem Repk.mono {K : PySem.W.Frag} {W : Wd G} {P P' : Hp} (s : Sub P P') : ∀ (ds : List (D × D)) (vs : List (D × V)), Repk K W P ds vs → Repk K W P' ds vs
  | [], _, h => by simpa only [Repk] using h
  | (k, d) :: ds, vs, h => by
    simp only [Repk] at h ⊢
    obtain ⟨v, r, e, h1, h2⟩ := h
    exact ⟨v, r, e, Rep.mono s d v h1, Repk.mono s ds r h2⟩
theorem Repn.mono {K : PySem.W.Frag} {W : Wd G} {P P' : Hp} (s : Sub P P') : ∀ (ds : List (D × D)) (xs : List (NestedKey × Addr × Value)), Repn K W P ds xs → Repn K W P' ds xs
  | [], _, h => by simpa only [Repn] using h
  | (k, d) :: ds, xs, h => by
    simp only [Repn] at h ⊢
    obtain ⟨nk, b, u, v, r, e, h1, h2, h3, h4, h5, h6⟩ := h
    exact ⟨nk, b, u, v, r, e, h1, h2, Rep.mono s k _ h3, h4, Rep.mono s d v h5, Repn.mono s ds r h6⟩
end
/-- what a slot or a value in hand is: a shared datum, an own new thing, the thing of slot i -/
inductive S where
  | sh (d : D) | ow (d : D) | at (i : Nat) | any
abbrev Sl := List (Option S)
inductive Tag where
  | slot (i : Nat) | tmp (i : Nat)
/-- v reads as d in H, its parts by P -/
def Rd1 (K : PySem.W.Frag) (W : Wd G) (P H : Hp) : D → V → Prop
  | .lst ds, v => ∃ a xs, v = .ref a ∧ H a = some (.lst xs) ∧ ds.length ≤ sizeLine ∧ Reps K W P ds xs
  | .dct kvs, v => ∃ a o ks, v = .ref a ∧ H a = some o ∧ DObj o ks ∧ Repk K W P kvs ks
  | .dcn kvs, v => ∃ a o xs, v = .ref a ∧ H a = some o ∧ IsDN W.pw a o xs ∧ Repn K W P kvs xs
  | d, v => Rep K W P d v
/-- an own thing's object -/
def Own (K : PySem.W.Frag) (W : Wd G) (P : Hp) (a : Addr) (o : HO) : D → Prop
  | .lst ds => ∃ xs, o = .lst xs ∧ ds.length ≤ sizeLine ∧ Reps K W P ds xs
  | .dct kvs => ∃ ks, DObjK o ks ∧ Repk K W P kvs ks
  | .dcn kvs => ∃ xs, o = nDictO W.pw a xs ∧ Repn K W P kvs xs
  | _ => False
def SOk (K : PySem.W.Frag) (W : Wd G) (P : Hp) (O : Addr → Option Tag) (H : Hp) (σ : St) (t : Tag) (v : V) : S → Prop
  | .sh d => Rep K W P d v
  | .ow d => ∃ a o, v = .ref a ∧ O a = some t ∧ H a = some o ∧ Own K W P a o d
  | .at i => σ[i]? = some (some v)
  | .any => True
def TOk (K : PySem.W.Frag) (W : Wd G) (P : Hp) (O : Addr → Option Tag) (H : Hp) (σ : St) : List V → List S → Prop
  | [], [] => True
  | v :: τ, s :: ts => SOk K W P O H σ (.tmp τ.length) v s ∧ TOk K W P O H σ τ ts
  | _, _ => False
structure RelB (K : PySem.W.Frag) (W : Wd G) (P₀ H₀ P : Hp) (O : Addr → Option Tag) (σ : St) (st : Sl) (τ : List V) (ts : List S) (H : Hp) (g : G) : Prop where
  sub : Sub P H
  base : ∀ a o, H₀ a = some o → ¬ W.fp a → H a = some o
  p0 : Sub P₀ P
  new : ∀ a, P a ≠ none → P₀ a ≠ none ∨ H₀ a = none
  nfp : ∀ a, P a ≠ none → ¬ W.fp a
  own : ∀ a t, O a = some t → P a = none ∧ H₀ a = none ∧ ¬ W.fp a ∧ H a ≠ none
  wld : W.holds g H
  len : st.length = σ.length
  slots : ∀ (i : Nat) s, st[i]? = some (some s) → ∃ v, σ[i]? = some (some v) ∧ (∀ j, s ≠ .at j) ∧ SOk K W P O H σ (.slot i) v s
  temps : TOk K W P O H σ τ ts
def Rel (K : PySem.W.Frag) (W : Wd G) (P₀ H₀ : Hp) (σ : St) (st : Sl) (τ : List V) (ts : List S) (H : Hp) (g : G) : Prop :=
  ∃ P O, RelB K W P₀ H₀ P O σ st τ ts H g
abbrev M (G α : Type) := Sl → G → Option (α × Sl × G)
def bnd {α β : Type} (x : Option (α × Sl × G)) (k : α → Sl → G → Option β) : Option β :=
  match x with
  | none => none
  | some (a, st, g) => k a st g
@[simp] theorem bnd_some {α β : Type} (a : α) (st : Sl) (g : G) (k : α → Sl → G → Option β) : bnd (some (a, st, g)) k = k a st g := rfl
@[simp] theorem bnd_none {α β : Type} (k : α → Sl → G → Option β) : bnd (none : Option (α × Sl × G)) k = none := rfl
theorem bnd_eq {α β : Type} {x : Option (α × Sl × G)} {k : α → Sl → G → Option β} {b : β} (h : bnd x k = some b) : ∃ a st g, x = some (a, st, g) ∧ k a st g = some b := by
  cases x with
  | none => cases h
  | some y => exact ⟨y.1, y.2.1, y.2.2, rfl, h⟩
def peek (s : S) (st : Sl) : Option D :=
  match s with
  | .sh d => some d
  | .ow d => some d
  | .at i => match st[i]? with
    | some (some (.sh d)) => some d
    | some (some (.ow d)) => some d
    | _ => none
  | .any => none
/-- the value is kept elsewhere: it is shared from now on -/
def take (s : S) (st : Sl) : Option (D × Sl) :=
  match s with
  | .sh d => some (d, st)
  | .ow d => some (d, st)
  | .at i => match st[i]? with
    | some (some (.sh d)) => some (d, st)
    | some (some (.ow d)) => some (d, st.set i (some (.sh d)))
    | _ => none
  | .any => none
section
variable {K : PySem.W.Frag} {W : Wd G} {P₀ H₀ P H : Hp} {O : Addr → Option Tag} {σ : St} {st : Sl} {τ : List V} {ts : List S} {g : G} {v : V} {s : S} {d : D}
theorem Rep.rd1 (h : Sub P H) : ∀ {d : D} {v : V}, Rep K W P d v → Rd1 K W P H d v
  | .non, _, r => r
  | .bl _, _, r => r
  | .int _, _, r => r
  | .str _, _, r => r
  | .obj _, _, r => r
  | .tup _, _, r => r
  | .lst ds, v, r => by
    simp only [Rep] at r
    obtain ⟨a, xs, e, q, z, r⟩ := r
    exact ⟨a, xs, e, h _ _ q, z, r⟩
  | .dct kvs, v, r => by
    simp only [Rep] at r
    obtain ⟨a, o, ks, e, q, z, r⟩ := r
    exact ⟨a, o, ks, e, h _ _ q, z, r⟩
  | .dcn kvs, v, r => by
    simp only [Rep] at r
    obtain ⟨a, o, xs, e, q, z, r⟩ := r
    exact ⟨a, o, xs, e, h _ _ q, z, r⟩
theorem Own.rd1 {a : Addr} {o : HO} (h : H a = some o) : ∀ {d : D}, Own K W P a o d → Rd1 K W P H d (.ref a)
  | .lst ds, r => by
    obtain ⟨xs, rfl, z, r⟩ := r
    exact ⟨a, xs, rfl, h, z, r⟩
  | .dct kvs, r => by
    obtain ⟨ks, z, r⟩ := r
    exact ⟨a, o, ks, rfl, h, z.any, r⟩
  | .dcn kvs, r => by
    obtain ⟨xs, z, r⟩ := r
    exact ⟨a, o, xs, rfl, h, .inl z, r⟩
theorem SOk.rd1 {t : Tag} (hs : Sub P H) (h : SOk K W P O H σ t v s) (hn : ∀ i, s ≠ .at i) (hd : peek s st = some d) : Rd1 K W P H d v := by
  cases s with
  | sh e => cases hd; exact Rep.rd1 hs h
  | ow e =>
    cases hd
    obtain ⟨a, o, rfl, _, e2, r⟩ := h
    exact Own.rd1 e2 r
  | «at» i => exact absurd rfl (hn i)
  | any => cases hd
theorem RelB.slot (R : RelB K W P₀ H₀ P O σ st τ ts H g) {i : Nat} {s : S} (h : st[i]? = some (some s)) : ∃ v, σ[i]? = some (some v) ∧ (∀ j, s ≠ .at j) ∧ SOk K W P O H σ (.slot i) v s := R.slots i s h
/-- the value on top reads as what peek tells -/
theorem RelB.peekV (R : RelB K W P₀ H₀ P O σ st (v :: τ) (s :: ts) H g) (hd : peek s st = some d) : Rd1 K W P H d v := by
  have h : SOk K W P O H σ (.tmp τ.length) v s := R.temps.1
  cases s with
  | sh e => exact h.rd1 R.sub (fun _ q => nomatch q) hd
  | ow e => exact h.rd1 (st := st) R.sub (fun _ q => nomatch q) hd
  | any => cases hd
  | «at» i =>
    unfold peek at hd
    have hv : σ[i]? = some (some v) := h
    cases e : st[i]? with
    | none => simp [e] at hd
    | some x =>
      cases x with
      | none => simp [e] at hd
      | some y =>
        obtain ⟨v', e2, e3, q⟩ := R.slot e
        rw [hv] at e2; cases e2
        refine q.rd1 (st := st) R.sub e3 ?_
        cases y with
        | sh d' => simpa [e, peek] using hd
        | ow d' => simpa [e, peek] using hd
        | «at» j => exact absurd rfl (e3 j)
        | any => simp [e] at hd
theorem RelB.pop (R : RelB K W P₀ H₀ P O σ st (v :: τ) (s :: ts) H g) : RelB K W P₀ H₀ P O σ st τ ts H g :=
  { R with temps := R.temps.2 }
theorem RelB.pushS (R : RelB K W P₀ H₀ P O σ st τ ts H g) (h : SOk K W P O H σ (.tmp τ.length) v s) : RelB K W P₀ H₀ P O σ st (v :: τ) (s :: ts) H g :=
  { R with temps := ⟨h, R.temps⟩ }
theorem RelB.push (R : RelB K W P₀ H₀ P O σ st τ ts H g) (h : Rep K W P d v) : RelB K W P₀ H₀ P O σ st (v :: τ) (.sh d :: ts) H g := R.pushS h
theorem SOk.mono {P' H' : Hp} {O' : Addr → Option Tag} {t : Tag} (hp : Sub P P') (hO : ∀ a, O a = some t → O' a = some t) (hH : ∀ a o, O a = some t → H a = some o → H' a = some o) : SOk K W P O H σ t v s → SOk K W P' O' H' σ t v s := by
  intro h
  cases s with
  | sh e => exact Rep.mono hp _ _ h
  | ow e =>
    obtain ⟨a, o, rfl, e1, e2, r⟩ := h
    refine ⟨a, o, rfl, hO a e1, hH a o e1 e2, ?_⟩
    cases e with
    | lst ds => obtain ⟨xs, e3, z, r⟩ := r; exact ⟨xs, e3, z, Reps.mono hp _ _ r⟩
    | dct kvs => obtain ⟨ks, z, r⟩ := r; exact ⟨ks, z, Repk.mono hp _ _ r⟩
    | dcn kvs => obtain ⟨xs, z, r⟩ := r; exact ⟨xs, z, Repn.mono hp _ _ r⟩
    | _ => exact r
  | «at» i => exact h
  | any => exact h
theorem TOk.mono {P' H' : Hp} {O' : Addr → Option Tag} (hp : Sub P P') : ∀ {τ : List V} {ts : List S}, (∀ a i, i < τ.length → O a = some (.tmp i) → O' a = some (.tmp i)) → (∀ a o i, i < τ.length → O a = some (.tmp i) → H a = some o → H' a = some o) → TOk K W P O H σ τ ts → TOk K W P' O' H' σ τ ts
  | [], [], _, _, _ => trivial
  | v :: τ, s :: ts, hO, hH, h => ⟨SOk.mono hp (fun a q => hO a _ (Nat.lt_succ_self _) q) (fun a o q => hH a o _ (Nat.lt_succ_self _) q) h.1, TOk.mono hp (fun a i hi q => hO a i (Nat.lt_succ_of_lt hi) q) (fun a o i hi q => hH a o i (Nat.lt_succ_of_lt hi) q) h.2⟩
  | [], _ :: _, _, _, h => h.elim
  | _ :: _, [], _, _, h => h.elim
/-- a shared new thing is laid -/
theorem RelB.laid {p : Addr} {o : HO} (R : RelB K W P₀ H₀ P O σ st τ ts H g) (hp : H p = none) : RelB K W P₀ H₀ (upd P p o) O σ st τ ts (upd H p o) g := by
  have pn : P p = none := by
    cases e : P p with
    | none => rfl
    | some u => have := R.sub _ _ e; rw [hp] at this; cases this
  have nf : ¬ W.fp p := fun h => W.there g H p R.wld h hp
  have sP : Sub P (upd P p o) := fun a u e => by rw [upd_ne (ne_of_none e pn)]; exact e
  have sH : Sub H (upd H p o) := fun a u e => by rw [upd_ne (ne_of_none e hp)]; exact e
  refine ⟨fun a u e => ?_, fun a u e n => sH _ _ (R.base a u e n), R.p0.trans sP, fun a e => ?_, fun a e => ?_, fun a t e => ?_, ?_, R.len, fun i s e => ?_, ?_⟩
  · by_cases h : a = p
    · subst h; rw [upd_same] at e ⊢; exact e
    · rw [upd_ne h] at e ⊢; exact R.sub a u e
  · by_cases h : a = p
    · subst h
      right
      cases q : H₀ a with
      | none => rfl
      | some u => have := R.base a u q nf; rw [hp] at this; cases this
    · rw [upd_ne h] at e; exact R.new a e
  · by_cases h : a = p
    · subst h; exact nf
    · rw [upd_ne h] at e; exact R.nfp a e
  · obtain ⟨h1, h2, h3, h4⟩ := R.own a t e
    have ne : a ≠ p := fun q => h4 (q ▸ hp)
    exact ⟨by rw [upd_ne ne]; exact h1, h2, h3, by rw [upd_ne ne]; exact h4⟩
  · exact W.loc g H _ R.wld fun a h => upd_ne fun q => nf (q ▸ h)
  · obtain ⟨v, e1, e2, q⟩ := R.slots i s e
    exact ⟨v, e1, e2, q.mono sP (fun _ q => q) (fun a o _ q => sH _ _ q)⟩
  · exact R.temps.mono sP (fun _ _ _ q => q) (fun a o _ _ _ q => sH _ _ q)
/-- an own new thing is laid -/
theorem RelB.laidOwn {p : Addr} {o : HO} (R : RelB K W P₀ H₀ P O σ st τ ts H g) (hp : H p = none) (hd : Own K W P p o d) : ∃ O', RelB K W P₀ H₀ P O' σ st (.ref p :: τ) (.ow d :: ts) (upd H p o) g := by
  have pn : P p = none := by
    cases e : P p with
    | none => rfl
    | some u => have := R.sub _ _ e; rw [hp] at this; cases this
  have nf : ¬ W.fp p := fun h => W.there g H p R.wld h hp
  have sH : Sub H (upd H p o) := fun a u e => by rw [upd_ne (ne_of_none e hp)]; exact e
  have On : O p = none := by
    cases e : O p with
    | none => rfl
    | some t => exact absurd hp (R.own p t e).2.2.2
  have h0 : H₀ p = none := by
    cases q : H₀ p with
    | none => rfl
    | some u => have := R.base p u q nf; rw [hp] at this; cases this
  have sO : ∀ a t, O a = some t → (if a = p then some (Tag.tmp τ.length) else O a) = some t := fun a t e => by
    rw [if_neg (fun q => by rw [q, On] at e; cases e)]; exact e
  refine ⟨fun a => if a = p then some (.tmp τ.length) else O a, ⟨fun a u e => sH _ _ (R.sub a u e), fun a u e n => sH _ _ (R.base a u e n), R.p0, R.new, R.nfp, fun a t e => ?_, ?_, R.len, fun i s e => ?_, ⟨?_, ?_⟩⟩⟩
  · by_cases h : a = p
    · subst h; exact ⟨pn, h0, nf, by rw [upd_same]; simp⟩
    · rw [if_neg h] at e
      obtain ⟨h1, h2, h3, h4⟩ := R.own a t e
      exact ⟨h1, h2, h3, by rw [upd_ne h]; exact h4⟩
  · exact W.loc g H _ R.wld fun a h => upd_ne fun q => nf (q ▸ h)
  · obtain ⟨v, e1, e2, q⟩ := R.slots i s e
    exact ⟨v, e1, e2, q.mono (Sub.refl P) (fun a q => sO a _ q) (fun a o _ q => sH _ _ q)⟩
  · exact ⟨p, o, rfl, if_pos rfl, upd_same, hd⟩
  · exact R.temps.mono (Sub.refl P) (fun a i _ q => sO a _ q) (fun a o _ _ _ q => sH _ _ q)
/-- an own thing becomes shared -/
theorem RelB.freeze {a : Addr} {o : HO} {t : Tag} (R : RelB K W P₀ H₀ P O σ st τ ts H g) (hO : O a = some t) (hH : H a = some o) (hs : ∀ i s, t = .slot i → st[i]? = some (some s) → ∀ d, s ≠ .ow d) (ht : ∀ i, t = .tmp i → τ.length ≤ i) :
    RelB K W P₀ H₀ (upd P a o) (fun b => if b = a then none else O b) σ st τ ts H g := by
  obtain ⟨pn, h0, nf, _⟩ := R.own a t hO
  have sP : Sub P (upd P a o) := fun b u e => by rw [upd_ne (ne_of_none e pn)]; exact e
  refine ⟨fun b u e => ?_, R.base, R.p0.trans sP, fun b e => ?_, fun b e => ?_, fun b t' e => ?_, R.wld, R.len, fun i s e => ?_, ?_⟩
  · by_cases h : b = a
    · subst h; rw [upd_same] at e; rw [hH]; exact e
    · rw [upd_ne h] at e; exact R.sub b u e
  · by_cases h : b = a
    · subst h; exact .inr h0
    · rw [upd_ne h] at e; exact R.new b e
  · by_cases h : b = a
    · subst h; exact nf
    · rw [upd_ne h] at e; exact R.nfp b e
  · by_cases h : b = a
    · subst h; rw [if_pos rfl] at e; cases e
    · rw [if_neg h] at e
      obtain ⟨h1, h2⟩ := R.own b t' e
      exact ⟨by rw [upd_ne h]; exact h1, h2⟩
  · obtain ⟨v, e1, e2, q⟩ := R.slots i s e
    refine ⟨v, e1, e2, ?_⟩
    cases s with
    | sh d => exact Rep.mono sP _ _ q
    | «at» j => exact q
    | any => exact q
    | ow d =>
      refine SOk.mono sP (fun b z => ?_) (fun _ _ _ z => z) q
      rw [if_neg fun y => ?_]
      · exact z
      · subst y; rw [hO] at z; exact hs i _ (Option.some.inj z) e d rfl
  · refine TOk.mono sP (fun b i hi z => ?_) (fun _ _ _ _ _ z => z) R.temps
    rw [if_neg fun y => ?_]
    · exact z
    · subst y; rw [hO] at z; exact absurd (ht i (Option.some.inj z)) (Nat.not_le_of_lt hi)
end
end DL
namespace DL
open PySem PySem.Spec L2
variable {G : Type}
section
variable {K : PySem.W.Frag} {W : Wd G} {P₀ H₀ P H : Hp} {O : Addr → Option Tag} {σ : L2.St} {st st' : Sl} {τ : List V} {ts : List S} {g : G} {v : V} {s : S} {d : D}
/-- a value in hand becomes shared -/
theorem RelB.takeV (R : RelB K W P₀ H₀ P O σ st (v :: τ) (s :: ts) H g) (hd : take s st = some (d, st')) : ∃ P' O', RelB K W P₀ H₀ P' O' σ st' (v :: τ) (.sh d :: ts) H g := by
  have h : SOk K W P O H σ (.tmp τ.length) v s := R.temps.1
  have up : ∀ {a : Addr} {o : HO} {e : D}, v = .ref a → H a = some o → Own K W P a o e → P a = none → Rep K W (upd P a o) e v := by
    intro a o e ev eH q pn
    have sP : Sub P (upd P a o) := fun b u z => by rw [upd_ne (ne_of_none z pn)]; exact z
    cases e with
    | lst ds =>
      obtain ⟨xs, rfl, zz, r⟩ := q
      simp only [Rep]
      exact ⟨a, xs, ev, upd_same, zz, Reps.mono sP _ _ r⟩
    | dct kvs =>
      obtain ⟨ks, z, r⟩ := q
      simp only [Rep]
      exact ⟨a, o, ks, ev, upd_same, z.any, Repk.mono sP _ _ r⟩
    | dcn kvs =>
      obtain ⟨xs, z, r⟩ := q
      simp only [Rep]
      exact ⟨a, o, xs, ev, upd_same, .inl z, Repn.mono sP _ _ r⟩
    | _ => exact q.elim
  cases s with
  | sh e => simp only [take, Option.some.injEq, Prod.mk.injEq] at hd; obtain ⟨rfl, rfl⟩ := hd; exact ⟨P, O, R⟩
  | ow e =>
    simp only [take, Option.some.injEq, Prod.mk.injEq] at hd; obtain ⟨rfl, rfl⟩ := hd
    obtain ⟨a, o, ev, eO, eH, q⟩ := h
    have pn := (R.own a _ eO).1
    have R' := R.pop.freeze eO eH (fun i s e => nomatch e) (fun i e => by cases e; exact Nat.le_refl _)
    exact ⟨_, _, R'.push (up ev eH q pn)⟩
  | any => cases hd
  | «at» i =>
    have hv : σ[i]? = some (some v) := h
    unfold take at hd
    cases e : st[i]? with
    | none => simp [e] at hd
    | some x =>
      cases x with
      | none => simp [e] at hd
      | some y =>
        obtain ⟨v', e2, e3, q⟩ := R.slot e
        rw [hv] at e2; cases e2
        cases y with
        | sh d' =>
          simp only [e, Option.some.injEq, Prod.mk.injEq] at hd; obtain ⟨rfl, rfl⟩ := hd
          exact ⟨P, O, R.pop.push q⟩
        | «at» j => exact absurd rfl (e3 j)
        | any => simp [e] at hd
        | ow d' =>
          simp only [e, Option.some.injEq, Prod.mk.injEq] at hd; obtain ⟨rfl, rfl⟩ := hd
          obtain ⟨a, o, ev, eO, eH, q⟩ := q
          have pn := (R.own a _ eO).1
          -- first forget that the slot owns it
          have hlt : i < st.length := by
            have := List.getElem?_eq_some_iff.mp e; exact this.1
          have R1 : RelB K W P₀ H₀ P O σ (st.set i none) (v :: τ) (.at i :: ts) H g := by
            refine { R with len := by rw [List.length_set]; exact R.len, slots := fun j s z => ?_ }
            by_cases hj : j = i
            · subst hj; rw [List.getElem?_set_self hlt] at z; cases z
            · rw [List.getElem?_set_ne (Ne.symm hj)] at z; exact R.slots j s z
          have R2 := R1.freeze eO eH (fun j s z y => by
            cases z; rw [List.getElem?_set_self hlt] at y; cases y) (fun j z => nomatch z)
          have rp := up ev eH q pn
          refine ⟨_, _, { R2 with len := by rw [List.length_set]; exact R.len, slots := fun j s z => ?_, temps := ⟨rp, R2.temps.2⟩ }⟩
          by_cases hj : j = i
          · subst hj
            rw [List.getElem?_set_self hlt] at z; cases z
            exact ⟨v, hv, (fun _ q => nomatch q), rp⟩
          · rw [List.getElem?_set_ne (Ne.symm hj)] at z
            exact R2.slots j s (by rw [List.getElem?_set_ne (Ne.symm hj)]; exact z)
def NoAt (ts : List S) : Prop := ∀ i, S.at i ∉ ts
theorem TOk.noAt {σ' : L2.St} : ∀ {τ : List V} {ts : List S}, NoAt ts → TOk K W P O H σ τ ts → TOk K W P O H σ' τ ts
  | [], [], _, h => h
  | v :: τ, s :: ts, n, h => by
    refine ⟨?_, TOk.noAt (fun i q => n i (List.mem_cons_of_mem _ q)) h.2⟩
    have h1 := h.1
    cases s with
    | sh e => exact h1
    | ow e => exact h1
    | any => exact h1
    | «at» i => exact absurd List.mem_cons_self (n i)
  | [], _ :: _, _, h => h.elim
  | _ :: _, [], _, h => h.elim
/-- a name is stored -/
theorem RelB.store {i : Nat} (R : RelB K W P₀ H₀ P O σ st (v :: τ) (s :: ts) H g) (hs : ∀ j, s ≠ .at j) (hs2 : s ≠ .any) (hn : NoAt ts) (hi : i < σ.length) : ∃ O', RelB K W P₀ H₀ P O' (σ.set i (some v)) (st.set i (some s)) τ ts H g := by
  have h : SOk K W P O H σ (.tmp τ.length) v s := R.temps.1
  have hl : i < st.length := by rw [R.len]; exact hi
  cases s with
  | «at» j => exact absurd rfl (hs j)
  | any => exact absurd rfl hs2
  | sh e =>
    refine ⟨O, { R with len := by simp [R.len], slots := fun j s z => ?_, temps := R.temps.2.noAt hn }⟩
    by_cases hj : j = i
    · subst hj
      rw [List.getElem?_set_self hl] at z; cases z
      exact ⟨v, List.getElem?_set_self hi, (fun _ q => nomatch q), h⟩
    · rw [List.getElem?_set_ne (Ne.symm hj)] at z
      obtain ⟨v', e1, e2, q⟩ := R.slots j s z
      refine ⟨v', by rw [List.getElem?_set_ne (Ne.symm hj)]; exact e1, e2, ?_⟩
      cases s with
      | sh _ => exact q
      | ow _ => exact q
      | any => exact q
      | «at» k => exact absurd rfl (e2 k)
  | ow e =>
    obtain ⟨a, o, ev, eO, eH, q⟩ := h
    have own := R.own a _ eO
    refine ⟨fun b => if b = a then some (.slot i) else O b, { R with own := fun b t z => ?_, len := by simp [R.len], slots := fun j s z => ?_, temps := ?_ }⟩
    · by_cases hb : b = a
      · subst hb; exact own
      · rw [if_neg hb] at z; exact R.own b t z
    · by_cases hj : j = i
      · subst hj
        rw [List.getElem?_set_self hl] at z; cases z
        exact ⟨v, List.getElem?_set_self hi, (fun _ q => nomatch q), a, o, ev, if_pos rfl, eH, q⟩
      · rw [List.getElem?_set_ne (Ne.symm hj)] at z
        obtain ⟨v', e1, e2, q⟩ := R.slots j s z
        refine ⟨v', by rw [List.getElem?_set_ne (Ne.symm hj)]; exact e1, e2, ?_⟩
        cases s with
        | sh _ => exact q
        | any => exact q
        | «at» k => exact absurd rfl (e2 k)
        | ow e' =>
          obtain ⟨b, o', ev', eO', eH', q'⟩ := q
          refine ⟨b, o', ev', (if_neg fun y => ?_).trans eO', eH', q'⟩
          subst y; rw [eO] at eO'; cases eO'
    · refine TOk.noAt hn (TOk.mono (Sub.refl P) (fun b k hk z => ?_) (fun _ _ _ _ _ z => z) R.temps.2)
      rw [if_neg fun y => ?_]
      · exact z
      · subst y; rw [eO] at z; cases z; exact absurd hk (Nat.lt_irrefl _)
/-- an own thing of slot i is changed -/
theorem RelB.write {i : Nat} {a : Addr} {o o' : HO} {d d' : D} (R : RelB K W P₀ H₀ P O σ st τ ts H g) (h : st[i]? = some (some (.ow d))) (hv : σ[i]? = some (some (.ref a))) (hd : Own K W P a o' d') :
    RelB K W P₀ H₀ P O σ (st.set i (some (.ow d'))) τ ts (upd H a o') g := by
  obtain ⟨v', e1, e2, a', o2, ev, eO, eH, q⟩ := R.slots i _ h
  rw [hv] at e1; cases e1; cases ev
  have own := R.own a _ eO
  have hl : i < st.length := (List.getElem?_eq_some_iff.mp h).1
  have ne : ∀ b t, O b = some t → t ≠ .slot i → b ≠ a := fun b t z ht y => by subst y; rw [eO] at z; exact ht (Option.some.inj z).symm
  refine { R with sub := fun b u z => ?_, base := fun b u z n => ?_, own := fun b t z => ?_, wld := ?_, len := by simp [R.len], slots := fun j s z => ?_, temps := ?_ }
  · rw [upd_ne (ne_of_none z own.1)]; exact R.sub b u z
  · rw [upd_ne (ne_of_none z own.2.1)]; exact R.base b u z n
  · obtain ⟨h1, h2, h3, h4⟩ := R.own b t z
    refine ⟨h1, h2, h3, ?_⟩
    by_cases hb : b = a
    · subst hb; rw [upd_same]; simp
    · rw [upd_ne hb]; exact h4
  · exact W.loc g H _ R.wld fun b hb => upd_ne fun y => own.2.2.1 (y ▸ hb)
  · by_cases hj : j = i
    · subst hj
      rw [List.getElem?_set_self hl] at z; cases z
      exact ⟨_, hv, (fun _ q => nomatch q), a, o', rfl, eO, upd_same, hd⟩
    · rw [List.getElem?_set_ne (Ne.symm hj)] at z
      obtain ⟨v', e1, e2, q⟩ := R.slots j s z
      exact ⟨v', e1, e2, q.mono (Sub.refl P) (fun _ z => z) fun b u z w' => by
        rw [upd_ne (ne b _ z fun y => hj (by cases y; rfl))]; exact w'⟩
  · exact R.temps.mono (Sub.refl P) (fun _ _ _ z => z) fun b u k _ z w' => by
      rw [upd_ne (ne b _ z fun y => nomatch y)]; exact w'
end
/-! ### judgements over readings -/
/-- an expression's reading does f -/
def EvE (K : PySem.W.Frag) (W : Wd G) (t : TE) (f : M G S) : Prop :=
  ∀ (P₀ H₀ : Hp) (σ : L2.St) (st : Sl) (τ : List V) (ts : List S) (H : Hp) (g : G) (r : S) (st' : Sl) (g' : G) (Q : VK),
    Rel K W P₀ H₀ σ st τ ts H g → f st g = some (r, st', g') → (∀ v H', Rel K W P₀ H₀ σ st' (v :: τ) (r :: ts) H' g' → Q v H') → t σ H Q
def EvT (K : PySem.W.Frag) (W : Wd G) (t : TT) (f : M G Bool) : Prop :=
  ∀ (P₀ H₀ : Hp) (σ : L2.St) (st : Sl) (τ : List V) (ts : List S) (H : Hp) (g : G) (r : Bool) (st' : Sl) (g' : G) (Q : Bool → Hp → Prop),
    Rel K W P₀ H₀ σ st τ ts H g → f st g = some (r, st', g') → (∀ H', Rel K W P₀ H₀ σ st' τ ts H' g' → Q r H') → t σ H Q
/-- a family of contexts that differ in nothing that a proof looks at -/
structure CF where
  ι : Type
  X : ι → Cx
  prog : Program
  w : World
  K : PySem.W.Frag
  mg : Str → Option Value
  base : Heap
  N : List Str
  room : Nat
  hP : ∀ j, (X j).prog = prog
  hw : ∀ j, (X j).w = w
  hK : ∀ j, (X j).K = K
  hmg : ∀ j, (X j).mg = mg
  hbase : ∀ j, (X j).base = base
  hN : ∀ j, (X j).N = N
  nd : N.Nodup
  calm : ∀ j, (X j).calm = true
  hr : ∀ j, Room room (X j).A
  hgd : ∀ j, (X j).A.guards = some []
  xe : ∀ j, (X j).xe = fun _ _ => False
theorem CF.nd' (C : CF) (j : C.ι) : (C.X j).N.Nodup := by rw [C.hN j]; exact C.nd
theorem CF.un (C : CF) (j : C.ι) : (C.X j).A.units + 200 < cLine := by have := (C.hr j).un; omega
structure DE (C : CF) (Fam : Wd G → Prop) (e : Expr) (f : M G S) : Prop where
  ex : ∃ t, (∀ j, PE (C.X j) e t) ∧ ∀ W, Fam W → EvE C.K W t f
structure DT (C : CF) (Fam : Wd G → Prop) (e : Expr) (f : M G Bool) : Prop where
  ex : ∃ t, (∀ j, PT (C.X j) e t) ∧ ∀ W, Fam W → EvT C.K W t f
/-! ### names, constants -/
def mVar (i : Nat) : M G S := fun st g =>
  match st[i]? with
  | some (some (.sh d)) => some (.sh d, st, g)
  | some (some (.ow _)) => some (.at i, st, g)
  | _ => none
def mC (d : D) : M G S := fun st g => some (.sh d, st, g)
section
variable {C : CF} {Fam : Wd G → Prop}
theorem ev_var {K : PySem.W.Frag} {W : Wd G} (i : Nat) : EvE K W (tVar i) (mVar i) := by
  intro P₀ H₀ σ st τ ts H g r st' g' Q R h q
  obtain ⟨P, O, R⟩ := R
  unfold mVar at h
  cases e : st[i]? with
  | none => simp [e] at h
  | some x =>
    cases x with
    | none => simp [e] at h
    | some y =>
      obtain ⟨v, e1, e2, z⟩ := R.slot e
      refine ⟨v, e1, q v H ?_⟩
      cases y with
      | sh d =>
        simp only [e, Option.some.injEq, Prod.mk.injEq] at h; obtain ⟨rfl, rfl, rfl⟩ := h
        exact ⟨P, O, R.push z⟩
      | ow d =>
        simp only [e, Option.some.injEq, Prod.mk.injEq] at h; obtain ⟨rfl, rfl, rfl⟩ := h
        exact ⟨P, O, R.pushS e1⟩
      | «at» j => exact absurd rfl (e2 j)
      | any => simp [e] at h
theorem d_var (i : Nat) {x : Str} {pos : Pos} (hN : C.N[i]? = some x := by rfl) (hv : ∀ j, Vis (C.X j).env.scope x := by intro _; first | exact Or.inl rfl | exact Or.inr (Or.inl rfl) | exact Or.inr (Or.inr rfl)) (hd : (x == ("__debug__" : Str)) = false := by decide)
    (hcd : (x == ("__classdict__" : Str)) = false := by decide) : DE C Fam (.Name x pos) (mVar i) := ⟨_, fun j => pe_var (by rw [C.hN j]; exact hN) (hv j) hd hcd, fun _ _ => ev_var i⟩
theorem ev_c {K : PySem.W.Frag} {W : Wd G} {v : V} {d : D} (h : ∀ P, Rep K W P d v) : EvE K W (tC v) (mC d) := by
  intro P₀ H₀ σ st τ ts H g r st' g' Q R e q
  obtain ⟨P, O, R⟩ := R
  simp only [mC, Option.some.injEq, Prod.mk.injEq] at e; obtain ⟨rfl, rfl, rfl⟩ := e
  exact q v H ⟨P, O, R.push (h P)⟩
theorem d_int {i : Int} {j pos} : DE C Fam (.Constant (.int i) j pos) (mC (.int i)) := ⟨_, fun _ => pe_int, fun _ _ => ev_c fun _ => by simp [Rep]⟩
theorem d_bl {b : Bool} {j pos} : DE C Fam (.Constant (.bool b) j pos) (mC (.bl b)) := ⟨_, fun _ => pe_bl, fun _ _ => ev_c fun _ => by simp [Rep]⟩
theorem d_non {j pos} : DE C Fam (.Constant .none j pos) (mC .non) := ⟨_, fun _ => pe_non, fun _ _ => ev_c fun _ => by simp [Rep]⟩
theorem d_str {x : Str} {j pos} : DE C Fam (.Constant (.str x) j pos) (mC (.str x)) := ⟨_, fun _ => pe_str, fun _ _ => ev_c fun _ => by simp [Rep]⟩
/-! ### operators by values -/
def mOp (op : D → D → Option S) (fa fb : M G S) : M G S := fun st g =>
  bnd (fa st g) fun x st g => bnd (fb st g) fun y st g => (peek x st).bind fun dx => (peek y st).bind fun dy => (op dx dy).map fun z => (z, st, g)
def mUn (op : D → Option S) (fa : M G S) : M G S := fun st g =>
  bnd (fa st g) fun x st g => (peek x st).bind fun dx => (op dx).map fun z => (z, st, g)
/-- what comes of a value z: it lies in the heap H', of which R tells all -/
def B2 (K : PySem.W.Frag) (W : Wd G) (r : R2) (op : D → D → Option S) : Prop :=
  ∀ (P₀ H₀ P : Hp) (O : Addr → Option Tag) (σ : L2.St) (st : Sl) (τ : List V) (ts : List S) (H : Hp) (g : G) (x y : V) (dx dy : D) (z : S) (Q : VK),
    RelB K W P₀ H₀ P O σ st τ ts H g → Rd1 K W P H dx x → Rd1 K W P H dy y → op dx dy = some z → (∀ v H', Rel K W P₀ H₀ σ st (v :: τ) (z :: ts) H' g → Q v H') → r x y H Q
def B1 (K : PySem.W.Frag) (W : Wd G) (r : V → Hp → VK → Prop) (op : D → Option S) : Prop :=
  ∀ (P₀ H₀ P : Hp) (O : Addr → Option Tag) (σ : L2.St) (st : Sl) (τ : List V) (ts : List S) (H : Hp) (g : G) (x : V) (dx : D) (z : S) (Q : VK),
    RelB K W P₀ H₀ P O σ st τ ts H g → Rd1 K W P H dx x → op dx = some z → (∀ v H', Rel K W P₀ H₀ σ st (v :: τ) (z :: ts) H' g → Q v H') → r x H Q
theorem TOk.snd {K : PySem.W.Frag} {W : Wd G} {P H : Hp} {O : Addr → Option Tag} {σ : L2.St} {x y : V} {sx sy : S} {τ : List V} {ts : List S} (h : TOk K W P O H σ (y :: x :: τ) (sy :: sx :: ts)) : SOk K W P O H σ (.tmp τ.length) x sx := h.2.1
theorem ev_op {K : PySem.W.Frag} {W : Wd G} {ta tb : TE} {fa fb : M G S} {r : R2} {op : D → D → Option S} (ha : EvE K W ta fa) (hb : EvE K W tb fb) (ho : B2 K W r op) : EvE K W (tOp r ta tb) (mOp op fa fb) := by
  intro P₀ H₀ σ st τ ts H g z st' g' Q R h q
  obtain ⟨x, st1, g1, e1, h⟩ := bnd_eq h
  obtain ⟨y, st2, g2, e2, h⟩ := bnd_eq h
  obtain ⟨dx, e3, h⟩ := Option.bind_eq_some_iff.mp h
  obtain ⟨dy, e4, h⟩ := Option.bind_eq_some_iff.mp h
  obtain ⟨z', e5, h⟩ := Option.map_eq_some_iff.mp h
  simp only [Prod.mk.injEq] at h; obtain ⟨rfl, rfl, rfl⟩ := h
  refine ha _ _ _ _ _ _ _ _ _ _ _ _ R e1 fun v1 H1 R1 => ?_
  refine hb _ _ _ _ _ _ _ _ _ _ _ _ R1 e2 fun v2 H2 R2 => ?_
  obtain ⟨P, O, R2⟩ := R2
  exact ho _ _ _ _ _ _ _ _ _ _ _ _ _ _ _ _ R2.pop.pop (R2.pop.peekV e3) (R2.peekV e4) e5 q
theorem ev_un {K : PySem.W.Frag} {W : Wd G} {ta : TE} {fa : M G S} {r : V → Hp → VK → Prop} {op : D → Option S} (ha : EvE K W ta fa) (ho : B1 K W r op) : EvE K W (tUn r ta) (mUn op fa) := by
  intro P₀ H₀ σ st τ ts H g z st' g' Q R h q
  obtain ⟨x, st1, g1, e1, h⟩ := bnd_eq h
  obtain ⟨dx, e3, h⟩ := Option.bind_eq_some_iff.mp h
  obtain ⟨z', e5, h⟩ := Option.map_eq_some_iff.mp h
  simp only [Prod.mk.injEq] at h; obtain ⟨rfl, rfl, rfl⟩ := h
  refine ha _ _ _ _ _ _ _ _ _ _ _ _ R e1 fun v1 H1 R1 => ?_
  obtain ⟨P, O, R1⟩ := R1
  exact ho _ _ _ _ _ _ _ _ _ _ _ _ _ _ R1.pop (R1.peekV e3) e5 q
variable {a b : Expr} {fa fb : M G S} {pos : Pos}
theorem d_op {op : Operator} {r : R2} {f : D → D → Option S} (ho : ∀ j, OpR (C.X j) (binaryOp op) r) (hf : ∀ W, Fam W → B2 C.K W r f) (ha : DE C Fam a fa) (hb : DE C Fam b fb) : DE C Fam (.BinOp a op b pos) (mOp f fa fb) := by
  obtain ⟨ta, pa, ea⟩ := ha.ex
  obtain ⟨tb, pb, eb⟩ := hb.ex
  exact ⟨_, fun j => pe_op (ho j) (pa j) (pb j), fun W h => ev_op (ea W h) (eb W h) (hf W h)⟩
theorem d_cmp {op : CmpOp} {r : R2} {f : D → D → Option S} (ho : ∀ j, OpR (C.X j) (compareOp op) r) (hf : ∀ W, Fam W → B2 C.K W r f) (ha : DE C Fam a fa) (hb : DE C Fam b fb) (hm : behindInMarks op b = false := by first | exact nobehind _ (by decide) (by decide) | rfl) : DE C Fam (.Compare a [op] [b] pos) (mOp f fa fb) := by
  obtain ⟨ta, pa, ea⟩ := ha.ex
  obtain ⟨tb, pb, eb⟩ := hb.ex
  exact ⟨_, fun j => pe_cmpR (ho j) (pa j) (pb j) hm, fun W h => ev_op (ea W h) (eb W h) (hf W h)⟩
/-! ### tests -/
def mTest (f : M G S) : M G Bool := fun st g => bnd (f st g) fun x st g => match x with
  | .sh (.bl b) => some (b, st, g)
  | _ => none
theorem rep_bl {K : PySem.W.Frag} {W : Wd G} {P : Hp} {b : Bool} {v : V} (h : Rep K W P (.bl b) v) : v = .bl b := by simpa only [Rep] using h
theorem ev_test {K : PySem.W.Frag} {W : Wd G} {ta : TE} {fa : M G S} (ha : EvE K W ta fa) : EvT K W (tB ta) (mTest fa) := by
  intro P₀ H₀ σ st τ ts H g z st' g' Q R h q
  obtain ⟨x, st1, g1, e1, h⟩ := bnd_eq h
  refine ha _ _ _ _ _ _ _ _ _ _ _ _ R e1 fun v1 H1 R1 => ?_
  cases x with
  | sh d =>
    cases d with
    | bl b =>
      simp only [Option.some.injEq, Prod.mk.injEq] at h; obtain ⟨rfl, rfl, rfl⟩ := h
      obtain ⟨P, O, R1⟩ := R1
      exact ⟨b, rep_bl (K := K) (W := W) (P := P) R1.temps.1, q H1 ⟨P, O, R1.pop⟩⟩
    | _ => cases h
  | _ => cases h
theorem d_test (ha : DE C Fam a fa) (he : ∀ j whole, isTrue a (C.X j).env whole = (do let v ← whole; standAt a.pos; holding [v] (truthy v)) := by intro _ _; rfl) : DT C Fam a (mTest fa) := by
  obtain ⟨ta, pa, ea⟩ := ha.ex
  exact ⟨_, fun j => pt_val (pa j) (he j), fun W h => ev_test (ea W h)⟩
theorem d_tcmp {op : CmpOp} {r : R2} {f : D → D → Option S} (ho : ∀ j, OpR (C.X j) (compareOp op) r) (hf : ∀ W, Fam W → B2 C.K W r f) (ha : DE C Fam a fa) (hb : DE C Fam b fb) (hm : behindInMarks op b = false := by first | exact nobehind _ (by decide) (by decide) | rfl) : DT C Fam (.Compare a [op] [b] pos) (mTest (mOp f fa fb)) := by
  obtain ⟨ta, pa, ea⟩ := ha.ex
  obtain ⟨tb, pb, eb⟩ := hb.ex
  exact ⟨_, fun j => pt_cmpR (ho j) (pa j) (pb j) hm, fun W h => ev_test (ev_op (ea W h) (eb W h) (hf W h))⟩
def mAnd (x y : M G Bool) : M G Bool := fun st g => bnd (x st g) fun b st g => if b = true then y st g else some (false, st, g)
def mOr (x y : M G Bool) : M G Bool := fun st g => bnd (x st g) fun b st g => if b = true then some (true, st, g) else y st g
def mNot (x : M G Bool) : M G Bool := fun st g => bnd (x st g) fun b st g => some (!b, st, g)
def mOfB (x : M G Bool) : M G S := fun st g => bnd (x st g) fun b st g => some (.sh (.bl b), st, g)
def mIf {α : Type} (c : M G Bool) (x y : M G α) : M G α := fun st g => bnd (c st g) fun b st g => if b = true then x st g else y st g
/-- a test, whatever its whole is -/
structure DW (C : CF) (Fam : Wd G → Prop) (e : Expr) (f : M G Bool) : Prop where
  ex : ∃ t, (∀ j, PW (C.X j) e t) ∧ ∀ W, Fam W → EvT C.K W t f
theorem DW.dt {e : Expr} {f : M G Bool} (h : DW C Fam e f) : DT C Fam e f := let ⟨t, p, q⟩ := h.ex; ⟨t, fun j => (p j).pt, q⟩
variable {x y : M G Bool} {rest : List Expr}
theorem w_or1 (ha : DT C Fam a x) : DW C Fam (.BoolOp .Or [a] pos) x := let ⟨t, p, q⟩ := ha.ex; ⟨t, fun j => pw_or1 (p j), q⟩
theorem w_or (ha : DT C Fam a x) (hb : DW C Fam (.BoolOp .Or (b :: rest) pos) y) : DW C Fam (.BoolOp .Or (a :: b :: rest) pos) (mOr x y) := by
  obtain ⟨ta, pa, ea⟩ := ha.ex
  obtain ⟨tb, pb, eb⟩ := hb.ex
  refine ⟨_, fun j => pw_or (pa j) (pb j), fun W hW => ?_⟩
  intro P₀ H₀ σ st τ ts H g z st' g' Q R h q
  obtain ⟨c, st1, g1, e1, h⟩ := bnd_eq h
  refine ea W hW _ _ _ _ _ _ _ _ _ _ _ _ R e1 fun H1 R1 => ?_
  cases c with
  | false => rw [if_neg (by simp)] at h ⊢; exact eb W hW _ _ _ _ _ _ _ _ _ _ _ _ R1 h q
  | true =>
    rw [if_pos rfl] at h ⊢
    simp only [Option.some.injEq, Prod.mk.injEq] at h; obtain ⟨rfl, rfl, rfl⟩ := h
    exact q H1 R1
theorem d_not (ha : DT C Fam a x) : DT C Fam (.UnaryOp .Not a pos) (mNot x) := by
  obtain ⟨ta, pa, ea⟩ := ha.ex
  refine ⟨_, fun j => pt_not (pa j), fun W hW => ?_⟩
  intro P₀ H₀ σ st τ ts H g z st' g' Q R h q
  obtain ⟨c, st1, g1, e1, h⟩ := bnd_eq h
  refine ea W hW _ _ _ _ _ _ _ _ _ _ _ _ R e1 fun H1 R1 => ?_
  simp only [Option.some.injEq, Prod.mk.injEq] at h; obtain ⟨rfl, rfl, rfl⟩ := h
  exact q H1 R1
theorem d_ifx {c : Expr} {f1 f2 : M G S} (hc : DT C Fam c x) (ha : DE C Fam a f1) (hb : DE C Fam b f2) : DE C Fam (.IfExp c a b pos) (mIf x f1 f2) := by
  obtain ⟨tc, pc, ec⟩ := hc.ex
  obtain ⟨ta, pa, ea⟩ := ha.ex
  obtain ⟨tb, pb, eb⟩ := hb.ex
  refine ⟨_, fun j => pe_ifExp (pc j) (pa j) (pb j), fun W hW => ?_⟩
  intro P₀ H₀ σ st τ ts H g z st' g' Q R h q
  obtain ⟨c, st1, g1, e1, h⟩ := bnd_eq h
  refine ec W hW _ _ _ _ _ _ _ _ _ _ _ _ R e1 fun H1 R1 => ?_
  cases c with
  | true => rw [if_pos rfl] at h ⊢; exact ea W hW _ _ _ _ _ _ _ _ _ _ _ _ R1 h q
  | false => rw [if_neg (by simp)] at h ⊢; exact eb W hW _ _ _ _ _ _ _ _ _ _ _ _ R1 h q
/-! values of and, or, not where the parts are truths -/
def mAndV (f g : M G S) : M G S := mIf (mTest f) g (mC (.bl false))
def mOrV (f g : M G S) : M G S := mIf (mTest f) (mC (.bl true)) g
theorem d_one {op} {f : M G S} (h : DE C Fam a f) : DE C Fam (.BoolOp op [a] pos) f := let ⟨t, p, q⟩ := h.ex; ⟨t, fun j => pe_one (p j), q⟩
theorem d_orV {f1 f2 : M G S} (ha : DE C Fam a f1) (hb : DE C Fam (.BoolOp .Or (b :: rest) pos) f2) : DE C Fam (.BoolOp .Or (a :: b :: rest) pos) (mOrV f1 f2) := by
  obtain ⟨ta, pa, ea⟩ := ha.ex
  obtain ⟨tb, pb, eb⟩ := hb.ex
  refine ⟨_, fun j => pe_or (pa j) (pb j), fun W hW => ?_⟩
  intro P₀ H₀ σ st τ ts H g z st' g' Q R h q
  obtain ⟨c, st1, g1, e1, h⟩ := bnd_eq h
  have hc := ev_test (ea W hW) _ _ _ _ _ _ _ _ _ _ _ (fun c H' => if c = true then Q (.bl true) H' else tb σ H' Q) R e1 fun H1 R1 => by
    cases c with
    | false => rw [if_neg (by simp)] at h ⊢; exact eb W hW _ _ _ _ _ _ _ _ _ _ _ _ R1 h q
    | true =>
      rw [if_pos rfl] at h ⊢
      simp only [mC, Option.some.injEq, Prod.mk.injEq] at h; obtain ⟨rfl, rfl, rfl⟩ := h
      obtain ⟨P, O, R1⟩ := R1
      exact q _ _ ⟨P, O, R1.push (by simp [Rep])⟩
  exact hc
end
end DL
namespace DL
open PySem PySem.Spec L2
variable {G : Type}
section
variable {K : PySem.W.Frag} {W : Wd G} {P₀ H₀ P H : Hp} {O : Addr → Option Tag} {σ : L2.St} {st st' : Sl} {τ : List V} {ts : List S} {g : G} {v : V} {s : S} {d : D}
theorem Reps.length : ∀ {ds : List D} {vs : List V}, Reps K W P ds vs → vs.length = ds.length
  | [], vs, h => by simp only [Reps] at h; subst h; rfl
  | d :: ds, vs, h => by
    simp only [Reps] at h
    obtain ⟨v, r, rfl, _, h2⟩ := h
    simp [Reps.length h2]
theorem Reps.get : ∀ {ds : List D} {vs : List V} {i : Nat} {d : D}, Reps K W P ds vs → ds[i]? = some d → ∃ v, vs[i]? = some v ∧ Rep K W P d v
  | [], vs, i, d, _, e => by simp at e
  | d :: ds, vs, 0, d', h, e => by
    simp only [Reps] at h
    obtain ⟨v, r, rfl, h1, h2⟩ := h
    simp at e; subst e
    exact ⟨v, by simp, h1⟩
  | d :: ds, vs, i + 1, d', h, e => by
    simp only [Reps] at h
    obtain ⟨v, r, rfl, h1, h2⟩ := h
    simp at e
    obtain ⟨w', e1, e2⟩ := Reps.get h2 e
    exact ⟨w', by simpa using e1, e2⟩
theorem Reps.append : ∀ {ds es : List D} {vs ws : List V}, Reps K W P ds vs → Reps K W P es ws → Reps K W P (ds ++ es) (vs ++ ws)
  | [], es, vs, ws, h, h2 => by simp only [Reps] at h; subst h; exact h2
  | d :: ds, es, vs, ws, h, h2 => by
    simp only [Reps] at h
    obtain ⟨v, r, rfl, h1, h3⟩ := h
    rw [List.cons_append, List.cons_append]
    simp only [Reps]
    exact ⟨v, r ++ ws, rfl, h1, Reps.append h3 h2⟩
theorem Reps.one {d : D} {v : V} (h : Rep K W P d v) : Reps K W P [d] [v] := by
  simp only [Reps]
  exact ⟨v, [], rfl, h, rfl⟩
theorem Reps.drop : ∀ {ds : List D} {vs : List V} (n : Nat), Reps K W P ds vs → Reps K W P (ds.drop n) (vs.drop n)
  | ds, vs, 0, h => h
  | [], vs, n + 1, h => by simp only [Reps] at h; subst h; simp [Reps]
  | d :: ds, vs, n + 1, h => by
    simp only [Reps] at h
    obtain ⟨v, r, rfl, h1, h3⟩ := h
    exact Reps.drop n h3
theorem Reps.take : ∀ {ds : List D} {vs : List V} (n : Nat), Reps K W P ds vs → Reps K W P (ds.take n) (vs.take n)
  | ds, vs, 0, h => by simp [Reps]
  | [], vs, n + 1, h => by simp only [Reps] at h; subst h; simp [Reps]
  | d :: ds, vs, n + 1, h => by
    simp only [Reps] at h
    obtain ⟨v, r, rfl, h1, h3⟩ := h
    rw [List.take_succ_cons, List.take_succ_cons]
    simp only [Reps]
    exact ⟨v, _, rfl, h1, Reps.take n h3⟩
theorem TOk.len : ∀ {τ : List V} {ts : List S}, TOk K W P O H σ τ ts → τ.length = ts.length
  | [], [], _ => rfl
  | _ :: _, _ :: _, h => by simp [TOk.len h.2]
  | [], _ :: _, h => h.elim
  | _ :: _, [], h => h.elim
theorem TOk.drop : ∀ {ρ τ : List V} {rs ts : List S}, ρ.length = rs.length → TOk K W P O H σ (ρ ++ τ) (rs ++ ts) → TOk K W P O H σ τ ts
  | [], τ, [], ts, _, h => h
  | v :: ρ, τ, s :: rs, ts, e, h => TOk.drop (by simpa using e) h.2
  | [], _, _ :: _, _, e, _ => by simp at e
  | _ :: _, _, [], _, e, _ => by simp at e
theorem RelB.drop {ρ : List V} {rs : List S} (R : RelB K W P₀ H₀ P O σ st (ρ ++ τ) (rs ++ ts) H g) (e : ρ.length = rs.length) : RelB K W P₀ H₀ P O σ st τ ts H g :=
  { R with temps := R.temps.drop e }
theorem Rel.drop {ρ : List V} {rs : List S} (R : Rel K W P₀ H₀ σ st (ρ ++ τ) (rs ++ ts) H g) (e : ρ.length = rs.length) : Rel K W P₀ H₀ σ st τ ts H g :=
  let ⟨P, O, R⟩ := R; ⟨P, O, R.drop e⟩
theorem Rel.pop (R : Rel K W P₀ H₀ σ st (v :: τ) (s :: ts) H g) : Rel K W P₀ H₀ σ st τ ts H g := let ⟨P, O, R⟩ := R; ⟨P, O, R.pop⟩
/-- the shared value on top stays when what lies below it is let go -/
theorem Rel.keepTop {ρ : List V} {rs : List S} (R : Rel K W P₀ H₀ σ st (v :: (ρ ++ τ)) (.sh d :: (rs ++ ts)) H g) (e : ρ.length = rs.length) : Rel K W P₀ H₀ σ st (v :: τ) (.sh d :: ts) H g := by
  obtain ⟨P, O, R⟩ := R
  exact ⟨P, O, (R.pop.drop e).push R.temps.1⟩
theorem NoAt.app {a b : List S} (h : NoAt a) (h2 : NoAt b) : NoAt (a ++ b) := fun i q => (List.mem_append.mp q).elim (h i) (h2 i)
end
/-! ### arguments -/
def EvA' (K : PySem.W.Frag) (W : Wd G) (t : TA) (f : M G (List D)) : Prop :=
  ∀ (P₀ H₀ : Hp) (σ : L2.St) (st : Sl) (τ : List V) (ts : List S) (H : Hp) (g : G) (ds : List D) (st' : Sl) (g' : G) (Q : List V → Hp → Prop),
    Rel K W P₀ H₀ σ st τ ts H g → f st g = some (ds, st', g') → (∀ vs H' P O, RelB K W P₀ H₀ P O σ st' τ ts H' g' → Reps K W P ds vs → Q vs H') → t σ H Q
structure DAs (C : CF) (Fam : Wd G → Prop) (es : List Expr) (f : M G (List D)) : Prop where
  ex : ∃ t, (∀ j, PA (C.X j) es t) ∧ ∀ W, Fam W → EvA' C.K W t f
  len : ∀ st g ds st' g', f st g = some (ds, st', g') → ds.length = es.length
def mTake (f : M G S) : M G D := fun st g => bnd (f st g) fun x st g => (take x st).map fun p => (p.1, p.2, g)
def mNil : M G (List D) := fun st g => some ([], st, g)
def mCons (f : M G S) (r : M G (List D)) : M G (List D) := fun st g => bnd (mTake f st g) fun d st g => bnd (r st g) fun ds st g => some (d :: ds, st, g)
theorem mTake_eq {f : M G S} {st st' : Sl} {g g' : G} {d : D} (h : mTake f st g = some (d, st', g')) : ∃ x st1, f st g = some (x, st1, g') ∧ take x st1 = some (d, st') := by
  obtain ⟨x, st1, g1, e1, h⟩ := bnd_eq h
  obtain ⟨p, e2, h⟩ := Option.map_eq_some_iff.mp h
  simp only [Prod.mk.injEq] at h; obtain ⟨rfl, rfl, rfl⟩ := h
  exact ⟨x, st1, e1, e2⟩
section
variable {C : CF} {Fam : Wd G → Prop} {e : Expr} {es : List Expr} {pos : Pos}
theorem a_nil : DAs C Fam [] mNil := ⟨⟨_, fun _ => pa_nil, fun W hW P₀ H₀ σ st τ ts H g ds st' g' Q R h q => by
  simp only [mNil, Option.some.injEq, Prod.mk.injEq] at h; obtain ⟨rfl, rfl, rfl⟩ := h
  obtain ⟨P, O, R⟩ := R
  exact q [] H P O R (by simp [Reps])⟩, fun st g ds st' g' h => by
  simp only [mNil, Option.some.injEq, Prod.mk.injEq] at h; obtain ⟨rfl, rfl, rfl⟩ := h; rfl⟩
theorem a_cons {f : M G S} {r : M G (List D)} (he : DE C Fam e f) (hr : DAs C Fam es r) (hs : ∀ j, starEach (e :: es) (C.X j).env = (false, eval e (C.X j).env) :: starEach es (C.X j).env := by intro _; rfl) : DAs C Fam (e :: es) (mCons f r) := by
  obtain ⟨ta, pa, ea⟩ := he.ex
  obtain ⟨tb, pb, eb⟩ := hr.ex
  refine ⟨⟨_, fun j => pa_cons (pa j) (pb j) (hs j), fun W hW P₀ H₀ σ st τ ts H g ds st' g' Q R h q => ?_⟩, fun st g ds st' g' h => by
    obtain ⟨d, st1, g1, e1, h⟩ := bnd_eq h
    obtain ⟨ds', st2, g2, e2, h⟩ := bnd_eq h
    simp only [Option.some.injEq, Prod.mk.injEq] at h; obtain ⟨rfl, rfl, rfl⟩ := h
    rw [List.length_cons, List.length_cons, hr.len _ _ _ _ _ e2]⟩
  obtain ⟨d, st1, g1, e1, h⟩ := bnd_eq h
  obtain ⟨ds', st2, g2, e2, h⟩ := bnd_eq h
  simp only [Option.some.injEq, Prod.mk.injEq] at h; obtain ⟨rfl, rfl, rfl⟩ := h
  obtain ⟨x, st0, e3, e4⟩ := mTake_eq e1
  refine ea W hW _ _ _ _ _ _ _ _ _ _ _ _ R e3 fun v H1 R1 => ?_
  obtain ⟨P, O, R1⟩ := R1
  obtain ⟨P', O', R1⟩ := R1.takeV e4
  refine eb W hW _ _ _ _ _ _ _ _ _ _ _ _ ⟨P', O', R1⟩ e2 fun vs H2 P2 O2 R2 rp => ?_
  refine q (v :: vs) H2 P2 O2 R2.pop ?_
  simp only [Reps]
  exact ⟨v, vs, rfl, R2.temps.1, rp⟩
/-! tuples, lists -/
def mTup (f : M G (List D)) : M G S := fun st g => bnd (f st g) fun ds st g => if ds.length ≤ sizeLine then some (.sh (.tup ds), st, g) else none
def mLst (f : M G (List D)) : M G S := fun st g => bnd (f st g) fun ds st g => if ds.length ≤ sizeLine then some (.ow (.lst ds), st, g) else none
theorem d_tup {f : M G (List D)} {k : Nat} (h : DAs C Fam es f) : DE C Fam (.Tuple es k pos) (mTup f) := by
  obtain ⟨ta, pa, ea⟩ := h.ex
  refine ⟨_, fun j => DY.pe_tupF (pa j), fun W hW P₀ H₀ σ st τ ts H g r st' g' Q R h q => ?_⟩
  obtain ⟨ds, st1, g1, e1, h⟩ := bnd_eq h
  refine ea W hW _ _ _ _ _ _ _ _ _ _ _ _ R e1 fun vs H1 P O R1 rp => ?_
  split at h
  · rename_i hz
    simp only [Option.some.injEq, Prod.mk.injEq] at h; obtain ⟨rfl, rfl, rfl⟩ := h
    refine ⟨by rw [rp.length]; exact hz, fun p ob hp hd => q _ _ ⟨_, O, (R1.laid hp).push ?_⟩⟩
    simp only [Rep]
    refine ⟨p, vs, rfl, .new upd_same hd, hz, Reps.mono (fun a u z => ?_) _ _ rp⟩
    rw [upd_ne fun y => ?_]
    · exact z
    · subst y; have := R1.sub _ _ z; rw [hp] at this; cases this
  · cases h
theorem d_lst {f : M G (List D)} (h : DAs C Fam es f) : DE C Fam (.List es pos) (mLst f) := by
  obtain ⟨ta, pa, ea⟩ := h.ex
  refine ⟨_, fun j => pe_lst (pa j), fun W hW P₀ H₀ σ st τ ts H g r st' g' Q R h q => ?_⟩
  obtain ⟨ds, st1, g1, e1, h⟩ := bnd_eq h
  refine ea W hW _ _ _ _ _ _ _ _ _ _ _ _ R e1 fun vs H1 P O R1 rp => ?_
  split at h
  · rename_i hz
    simp only [Option.some.injEq, Prod.mk.injEq] at h; obtain ⟨rfl, rfl, rfl⟩ := h
    refine ⟨by rw [rp.length]; exact hz, fun p hp => ?_⟩
    obtain ⟨O', R2⟩ := R1.laidOwn (d := .lst ds) hp ⟨vs, rfl, hz, rp⟩
    exact q _ _ ⟨P, O', R2⟩
  · cases h
end
/-! ### the promise of a def -/
def Ent (W : Wd G) (P H : Hp) (g : G) : Prop := Sub P H ∧ (∀ a, P a ≠ none → ¬ W.fp a) ∧ W.holds g H
structure Out (W : Wd G) (P H P' H' : Hp) (g' : G) : Prop where
  pp : Sub P P'
  sub : Sub P' H'
  nfp : ∀ a, P' a ≠ none → ¬ W.fp a
  new : ∀ a, P' a ≠ none → P a ≠ none ∨ H a = none
  same : ∀ a o, H a = some o → ¬ W.fp a → H' a = some o
  wld : W.holds g' H'
abbrev Fn (G : Type) := List D → G → Option (D × G)
def spF (K : PySem.W.Frag) (Fam : Wd G → Prop) (n : Nat) (F : Fn G) : Sp := fun vs H Q _ =>
  ∃ (W : Wd G) (P : Hp) (ds : List D) (g : G) (d : D) (g' : G), Fam W ∧ vs.length = n ∧ Ent W P H g ∧ Reps K W P ds vs ∧ F ds g = some (d, g') ∧
    ∀ v H' P', Out W P H P' H' g' → Rep K W P' d v → Q v H'
/-- the def x is there and does F, by level k -/
structure FD (P : Program) (w : World) (K : PySem.W.Frag) (mg : Str → Option Value) (base : Heap) (Fam : Wd G → Prop) (k : Nat) (x : Str) (n : Nat) (F : Fn G) : Prop where
  ex : ∃ f fd ps, DZ.FnG P w K mg base CX0 k f fd ps (spF K Fam n F) ∧ mg x = some (.ref f) ∧ PySem.W.keepIn K (.ref f) = true ∧ Binds K fd ps []
theorem FD.mono {P : Program} {w : World} {K : PySem.W.Frag} {mg : Str → Option Value} {base : Heap} {Fam : Wd G → Prop} {j k n : Nat} {x : Str} {F : Fn G} (h : FD P w K mg base Fam j x n F) (hk : j ≤ k) : FD P w K mg base Fam k x n F :=
  let ⟨f, fd, ps, a, b, c, d⟩ := h.ex; ⟨f, fd, ps, a.mono hk, b, c, d⟩
/-- what is told of less -/
theorem FD.imp {P : Program} {w : World} {K : PySem.W.Frag} {mg : Str → Option Value} {base : Heap} {Fam : Wd G → Prop} {k n : Nat} {x : Str} {F F' : Fn G} (h : FD P w K mg base Fam k x n F) (hF : ∀ ds g r, ds.length = n → F' ds g = some r → F ds g = some r) : FD P w K mg base Fam k x n F' := by
  obtain ⟨f, fd, ps, a, b, c, d⟩ := h.ex
  refine ⟨f, fd, ps, a.imp fun vs H Q E q => ?_, b, c, d⟩
  obtain ⟨W, P, ds, g, dd, g', h1, h2, h3, h4, h5, h6⟩ := q
  exact ⟨W, P, ds, g, dd, g', h1, h2, h3, h4, hF _ _ _ (by rw [← h4.length]; exact h2) h5, h6⟩
def mCall (F : Fn G) (fa : M G (List D)) : M G S := fun st g => bnd (fa st g) fun ds st g => (F ds g).map fun p => (.sh p.1, st, p.2)
section
variable {C : CF} {Fam : Wd G → Prop} {e : Expr} {es : List Expr} {pos p : Pos} {K : PySem.W.Frag} {W : Wd G} {P₀ H₀ P H : Hp} {O : Addr → Option Tag} {σ : L2.St} {st st' : Sl} {τ : List V} {ts : List S} {g g' : G} {v : V} {d : D}
theorem RelB.ent (R : RelB K W P₀ H₀ P O σ st τ ts H g) : Ent W P H g := ⟨R.sub, R.nfp, R.wld⟩
theorem RelB.out {P' H' : Hp} (R : RelB K W P₀ H₀ P O σ st τ ts H g) (o : Out W P H P' H' g') : RelB K W P₀ H₀ P' O σ st τ ts H' g' := by
  refine ⟨o.sub, fun a u e n => o.same a u (R.base a u e n) n, R.p0.trans o.pp, fun a e => ?_, o.nfp, fun a t e => ?_, o.wld, R.len, fun i s e => ?_, ?_⟩
  · rcases o.new a e with h | h
    · exact R.new a h
    · right
      cases q : H₀ a with
      | none => rfl
      | some u => have := R.base a u q (o.nfp a e); rw [h] at this; cases this
  · obtain ⟨h1, h2, h3, h4⟩ := R.own a t e
    refine ⟨?_, h2, h3, ?_⟩
    · cases q : P' a with
      | none => rfl
      | some u =>
        rcases o.new a (by rw [q]; simp) with h | h
        · exact absurd h1 h
        · exact absurd h h4
    · cases q : H a with
      | none => exact absurd q h4
      | some u => rw [o.same a u q h3]; simp
  · obtain ⟨v, e1, e2, q⟩ := R.slots i s e
    exact ⟨v, e1, e2, q.mono o.pp (fun _ z => z) fun a u z y => o.same a u y (R.own a _ z).2.2.1⟩
  · exact R.temps.mono o.pp (fun _ _ _ z => z) fun a u k _ z y => o.same a u y (R.own a _ z).2.2.1
theorem d_call {x : Str} {k n : Nat} {F : Fn G} {fa : M G (List D)} (h : FD C.prog C.w C.K C.mg C.base Fam k x n F) (ha : DAs C Fam (e :: es) fa) (hk : k ≤ C.room := by decide) (hg : ∀ j, Gl (C.X j) x := by intro _; rfl) (hn : (e :: es).length = n := by rfl) (hdb : (x == ("__debug__" : Str)) = false := by decide)
    (he : ∀ j, starEach (e :: es) (C.X j).env = (false, eval e (C.X j).env) :: starEach es (C.X j).env := by intro _; rfl) (hpl : ∀ j, (backTo pos (starEach es (C.X j).env)).any (·.1) = false := by intro _; rfl) :
    DE C Fam (.Call (.Name x p) (e :: es) [] pos) (mCall F fa) := by
  obtain ⟨f, fd, ps, a, b, c, dd⟩ := h.ex
  obtain ⟨ta, pa, ea⟩ := ha.ex
  refine ⟨_, fun j => DZ.pe_callG (by rw [C.hP, C.hw, C.hK, C.hmg, C.hbase]; exact a) ((C.hr j).mono hk) (C.hgd j) (hg j) (by rw [C.hmg]; exact b) (by rw [C.hK]; exact c) (by rw [C.hK]; exact dd) (pass0 (X := C.X j)) (pa j) hdb (he j) (hpl j), fun W hW P₀ H₀ σ st τ ts H g r st' g' Q R h q => ?_⟩
  obtain ⟨ds, st1, g1, e1, h⟩ := bnd_eq h
  obtain ⟨⟨d, g2⟩, e2, h⟩ := Option.map_eq_some_iff.mp h
  simp only [Prod.mk.injEq] at h; obtain ⟨rfl, rfl, rfl⟩ := h
  refine ea W hW _ _ _ _ _ _ _ _ _ _ _ _ R e1 fun vs H1 P O R1 rp => ?_
  have hlen := (ha.len _ _ _ _ _ e1).trans hn
  exact ⟨W, P, ds, g1, d, g2, hW, by rw [rp.length]; exact hlen, R1.ent, rp, e2, fun v H' P' o rv => q v H' ⟨P', O, (R1.out o).push rv⟩⟩
end
end DL
namespace DL
open PySem PySem.Spec L2
variable {G : Type}
/-! ### statements -/
inductive Fl where
  | nx | rt (d : D) | bk | ct
def EndOk (K : PySem.W.Frag) (W : Wd G) (P₀ H₀ : Hp) (τ : List V) (ts : List S) (E : Ends) (st' : Sl) (g' : G) : Fl → Prop
  | .nx => ∀ σ' H', Rel K W P₀ H₀ σ' st' τ ts H' g' → E.nx σ' H'
  | .rt d => ∀ σ' v H', Rel K W P₀ H₀ σ' st' (v :: τ) (.sh d :: ts) H' g' → E.rt v H'
  | .bk => ∀ σ' H', Rel K W P₀ H₀ σ' st' τ ts H' g' → E.bk σ' H'
  | .ct => ∀ σ' H', Rel K W P₀ H₀ σ' st' τ ts H' g' → E.ct σ' H'
def EvS (K : PySem.W.Frag) (W : Wd G) (t : TS) (f : M G Fl) : Prop :=
  ∀ (P₀ H₀ : Hp) (σ : L2.St) (st : Sl) (τ : List V) (ts : List S) (H : Hp) (g : G) (fl : Fl) (st' : Sl) (g' : G) (E : Ends),
    NoAt ts → Rel K W P₀ H₀ σ st τ ts H g → f st g = some (fl, st', g') → EndOk K W P₀ H₀ τ ts E st' g' fl → t E σ H
structure DS (C : CF) (Fam : Wd G → Prop) (st : Stmt) (f : M G Fl) : Prop where
  ex : ∃ t, (∀ j, PS (C.X j) st t) ∧ ∀ W, Fam W → EvS C.K W t f
structure DSs (C : CF) (Fam : Wd G → Prop) (st : List Stmt) (f : M G Fl) : Prop where
  ex : ∃ t, (∀ j, PSs (C.X j) st t) ∧ ∀ W, Fam W → EvS C.K W t f
def mNext : M G Fl := fun st g => some (.nx, st, g)
def mSeq (a b : M G Fl) : M G Fl := fun st g => bnd (a st g) fun fl st g => match fl with
  | .nx => b st g
  | .rt d => some (.rt d, st, g)
  | .bk => some (.bk, st, g)
  | .ct => some (.ct, st, g)
def mRet (f : M G S) : M G Fl := fun st g => bnd (mTake f st g) fun d st g => some (.rt d, st, g)
def mDrop (f : M G S) : M G Fl := fun st g => bnd (f st g) fun _ st g => some (.nx, st, g)
/-- x = e -/
def mSet (i : Nat) (f : M G S) : M G Fl := fun st g => bnd (f st g) fun x st g => if i < st.length then
    (match x with
    | .sh d => some (.nx, st.set i (some (.sh d)), g)
    | .ow d => some (.nx, st.set i (some (.ow d)), g)
    | .at j => (take (.at j) st).map fun p => (.nx, p.2.set i (some (.sh p.1)), g)
    | .any => none)
  else none
section
variable {C : CF} {Fam : Wd G → Prop} {e : Expr} {es : List Expr} {pos : Pos} {s1 : Stmt} {rest : List Stmt} {a b : M G Fl}
theorem s_nil : DSs C Fam [] mNext := ⟨_, fun _ => pss_nil, fun W hW P₀ H₀ σ st τ ts H g fl st' g' E n R h q => by
  simp only [mNext, Option.some.injEq, Prod.mk.injEq] at h; obtain ⟨rfl, rfl, rfl⟩ := h
  exact q _ _ R⟩
theorem ev_seq {K : PySem.W.Frag} {W : Wd G} {t u : TS} (ha : EvS K W t a) (hb : EvS K W u b) : EvS K W (tSeq t u) (mSeq a b) := by
  intro P₀ H₀ σ st τ ts H g fl st' g' E n R h q
  obtain ⟨f1, st1, g1, e1, h⟩ := bnd_eq h
  refine ha _ _ _ _ _ _ _ _ _ _ _ _ n R e1 ?_
  cases f1 with
  | nx => exact fun σ' H' R' => hb _ _ _ _ _ _ _ _ _ _ _ _ n R' h q
  | rt d => simp only [Option.some.injEq, Prod.mk.injEq] at h; obtain ⟨rfl, rfl, rfl⟩ := h; exact q
  | bk => simp only [Option.some.injEq, Prod.mk.injEq] at h; obtain ⟨rfl, rfl, rfl⟩ := h; exact q
  | ct => simp only [Option.some.injEq, Prod.mk.injEq] at h; obtain ⟨rfl, rfl, rfl⟩ := h; exact q
theorem s_cons (h1 : DS C Fam s1 a) (h2 : DSs C Fam rest b) : DSs C Fam (s1 :: rest) (mSeq a b) := by
  obtain ⟨ta, pa, ea⟩ := h1.ex
  obtain ⟨tb, pb, eb⟩ := h2.ex
  exact ⟨_, fun j => pss_cons (pa j) (pb j), fun W hW => ev_seq (ea W hW) (eb W hW)⟩
theorem s_one (h1 : DS C Fam s1 a) : DSs C Fam [s1] a := by
  obtain ⟨ta, pa, ea⟩ := h1.ex
  exact ⟨_, fun j => pss_one (pa j), ea⟩
theorem d_ret {f : M G S} (he : DE C Fam e f) : DS C Fam (.Return (some e) pos) (mRet f) := by
  obtain ⟨ta, pa, ea⟩ := he.ex
  refine ⟨_, fun j => ps_ret (pa j), fun W hW P₀ H₀ σ st τ ts H g fl st' g' E n R h q => ?_⟩
  obtain ⟨d, st1, g1, e1, h⟩ := bnd_eq h
  simp only [Option.some.injEq, Prod.mk.injEq] at h; obtain ⟨rfl, rfl, rfl⟩ := h
  obtain ⟨x, st0, e3, e4⟩ := mTake_eq e1
  refine ea W hW _ _ _ _ _ _ _ _ _ _ _ _ R e3 fun v H1 R1 => ?_
  obtain ⟨P, O, R1⟩ := R1
  obtain ⟨P', O', R1⟩ := R1.takeV e4
  exact q σ v H1 ⟨P', O', R1⟩
theorem d_expr {f : M G S} (he : DE C Fam e f) (hs : ∀ j, swapsWith e none pos.line (C.X j).env = pure false := by intro _; rfl) : DS C Fam (.Expr e pos) (mDrop f) := by
  obtain ⟨ta, pa, ea⟩ := he.ex
  refine ⟨_, fun j => ps_expr (pa j) (hs j), fun W hW P₀ H₀ σ st τ ts H g fl st' g' E n R h q => ?_⟩
  obtain ⟨d, st1, g1, e1, h⟩ := bnd_eq h
  simp only [Option.some.injEq, Prod.mk.injEq] at h; obtain ⟨rfl, rfl, rfl⟩ := h
  exact ea W hW _ _ _ _ _ _ _ _ _ _ _ _ R e1 fun v H1 R1 => q σ H1 R1.pop
theorem d_if {c : Expr} {x : M G Bool} {s2 s3 : List Stmt} (hc : DT C Fam c x) (ha : DSs C Fam s2 a) (hb : DSs C Fam s3 b) : DS C Fam (.If c s2 s3 pos) (mIf x a b) := by
  obtain ⟨tc, pc, ec⟩ := hc.ex
  obtain ⟨ta, pa, ea⟩ := ha.ex
  obtain ⟨tb, pb, eb⟩ := hb.ex
  refine ⟨_, fun j => ps_if (pc j) (pa j) (pb j), fun W hW P₀ H₀ σ st τ ts H g fl st' g' E n R h q => ?_⟩
  obtain ⟨c, st1, g1, e1, h⟩ := bnd_eq h
  refine ec W hW _ _ _ _ _ _ _ _ _ _ _ _ R e1 fun H1 R1 => ?_
  cases c with
  | true => rw [if_pos rfl] at h ⊢; exact ea W hW _ _ _ _ _ _ _ _ _ _ _ _ n R1 h q
  | false => rw [if_neg (by simp)] at h ⊢; exact eb W hW _ _ _ _ _ _ _ _ _ _ _ _ n R1 h q
theorem ev_set {K : PySem.W.Frag} {W : Wd G} {te : TE} {f : M G S} {i : Nat} (ea : EvE K W te f) : EvS K W (tAsg te (gName i)) (mSet i f) := by
  intro P₀ H₀ σ st τ ts H g fl st' g' E n R h q
  obtain ⟨x, st1, g1, e1, h⟩ := bnd_eq h
  refine ea _ _ _ _ _ _ _ _ _ _ _ _ R e1 fun v H1 R1 => ?_
  obtain ⟨P, O, R1⟩ := R1
  split at h
  · rename_i hi
    rw [R1.len] at hi
    cases x with
    | sh d =>
      simp only [Option.some.injEq, Prod.mk.injEq] at h; obtain ⟨rfl, rfl, rfl⟩ := h
      obtain ⟨O', R2⟩ := R1.store (fun j z => nomatch z) (fun z => nomatch z) n hi
      exact q _ _ ⟨P, O', R2⟩
    | ow d =>
      simp only [Option.some.injEq, Prod.mk.injEq] at h; obtain ⟨rfl, rfl, rfl⟩ := h
      obtain ⟨O', R2⟩ := R1.store (fun j z => nomatch z) (fun z => nomatch z) n hi
      exact q _ _ ⟨P, O', R2⟩
    | any => cases h
    | «at» j =>
      obtain ⟨⟨d, st2⟩, e2, h⟩ := Option.map_eq_some_iff.mp h
      simp only [Prod.mk.injEq] at h; obtain ⟨rfl, rfl, rfl⟩ := h
      obtain ⟨P', O', R1⟩ := R1.takeV e2
      obtain ⟨O', R2⟩ := R1.store (fun j z => nomatch z) (fun z => nomatch z) n hi
      exact q _ _ ⟨P', O', R2⟩
  · cases h
theorem d_set (i : Nat) {x : Str} {f : M G S} {pos' : Pos} (he : DE C Fam e f) (hi : C.N[i]? = some x := by rfl) (hx : ∀ j, Loc (C.X j).env.scope x := by intro _; first | exact Or.inl rfl | exact Or.inr rfl) (hs : ∀ j, swapsWith e (some (.Name x pos')) pos.line (C.X j).env = pure false := by intro _; rfl)
    (hf : ∀ j, (C.X j).fn x = true ∨ (C.X j).env.scope.names.lookup x = some .local := by intro _; first | exact .inl rfl | exact .inr rfl) : DS C Fam (.Assign [.Name x pos'] e pos) (mSet i f) := by
  obtain ⟨ta, pa, ea⟩ := he.ex
  exact ⟨_, fun j => ps_set (C.nd' j) (by rw [C.hN j]; exact hi) (hx j) (pa j) (hs j) (hf j), fun W hW => ev_set (ea W hW)⟩
end
/-! ### targets -/
inductive Pt where
  | nm (i : Nat) | tp (ps : List Pt)
mutual
def Pt.ix : Pt → List Nat
  | .nm i => [i]
  | .tp ps => Pt.ixs ps
def Pt.ixs : List Pt → List Nat
  | [] => []
  | p :: ps => p.ix ++ Pt.ixs ps
end
def Pt.isTp : Pt → Bool
  | .nm _ => false
  | .tp _ => true
mutual
def asg : Pt → D → Sl → Option Sl
  | .nm i, d, st => if i < st.length then some (st.set i (some (.sh d))) else none
  | .tp ps, d, st => match d with
    | .tup ds => asgs ps ds st
    | _ => none
def asgs : List Pt → List D → Sl → Option Sl
  | [], [], st => some st
  | p :: ps, d :: ds, st => (asg p d st).bind fun st => asgs ps ds st
  | _, _, _ => none
end
def EvG (K : PySem.W.Frag) (W : Wd G) (t : TG) (p : Pt) : Prop :=
  ∀ (P₀ H₀ P : Hp) (O : Addr → Option Tag) (σ : L2.St) (st : Sl) (τ : List V) (ts : List S) (H : Hp) (g : G) (d : D) (v : V) (st' : Sl) (Q : L2.St → Hp → Prop) (A : Bool),
    (A = true → p.isTp = true) → NoAt ts → RelB K W P₀ H₀ P O σ st τ ts H g → RepF K W P A d v → asg p d st = some st' →
    (∀ σ', (∀ vs, (∀ i ∈ p.ix, i ∈ vs) → wipe σ' vs = wipe σ vs) → RelB K W P₀ H₀ P O σ' st' τ ts H g → Q σ' H) → t v σ H Q
def EvGs (K : PySem.W.Frag) (W : Wd G) (t : TGs) (ps : List Pt) : Prop :=
  ∀ (P₀ H₀ P : Hp) (O : Addr → Option Tag) (σ : L2.St) (st : Sl) (τ : List V) (ts : List S) (H : Hp) (g : G) (ds : List D) (vs : List V) (st' : Sl) (Q : L2.St → Hp → Prop),
    NoAt ts → RelB K W P₀ H₀ P O σ st τ ts H g → Reps K W P ds vs → asgs ps ds st = some st' →
    (∀ σ', (∀ vs, (∀ i ∈ Pt.ixs ps, i ∈ vs) → wipe σ' vs = wipe σ vs) → RelB K W P₀ H₀ P O σ' st' τ ts H g → Q σ' H) → t vs σ H Q
theorem wipe_set (σ : L2.St) (i : Nat) (x : Option V) : ∀ (vs : List Nat), i ∈ vs → wipe (σ.set i x) vs = wipe σ vs
  | [], h => by cases h
  | v :: vs, h => by
    by_cases e : v = i
    · subst e
      have : ∀ (us : List Nat) (σ : L2.St), (wipe (σ.set v x) us).set v none = (wipe σ us).set v none := by
        intro us
        induction us with
        | nil => intro σ; simp [wipe]
        | cons u us ih =>
          intro σ
          simp only [wipe]
          by_cases e : u = v
          · subst e; simp; exact ih σ
          · rw [List.set_comm _ _ e, ih, List.set_comm _ _ (Ne.symm e)]
      exact this vs σ
    · simp only [wipe]
      rw [wipe_set σ i x vs ((List.mem_cons.mp h).resolve_left (fun q => e q.symm))]
theorem RelB.setSh {K : PySem.W.Frag} {W : Wd G} {P₀ H₀ P H : Hp} {O : Addr → Option Tag} {σ : L2.St} {st : Sl} {τ : List V} {ts : List S} {g : G} {v : V} {d : D} {i : Nat} (R : RelB K W P₀ H₀ P O σ st τ ts H g) (n : NoAt ts) (h : Rep K W P d v) (hi : i < σ.length) :
    RelB K W P₀ H₀ P O (σ.set i (some v)) (st.set i (some (.sh d))) τ ts H g := by
  have hl : i < st.length := by rw [R.len]; exact hi
  refine { R with len := by simp [R.len], slots := fun j s z => ?_, temps := R.temps.noAt n }
  by_cases hj : j = i
  · subst hj
    rw [List.getElem?_set_self hl] at z; cases z
    exact ⟨v, List.getElem?_set_self hi, (fun _ q => nomatch q), h⟩
  · rw [List.getElem?_set_ne (Ne.symm hj)] at z
    obtain ⟨v', e1, e2, q⟩ := R.slots j s z
    refine ⟨v', by rw [List.getElem?_set_ne (Ne.symm hj)]; exact e1, e2, ?_⟩
    cases s with
    | sh _ => exact q
    | ow _ => exact q
    | any => exact q
    | «at» k => exact absurd rfl (e2 k)
structure DG (C : CF) (tg : Expr) (p : Pt) : Prop where
  ex : ∃ t, (∀ j, PG (C.X j) tg t) ∧ ∀ (G : Type) (W : Wd G), EvG C.K W t p
structure DGs (C : CF) (tg : List Expr) (ps : List Pt) : Prop where
  ex : ∃ t, (∀ j, PGs (C.X j) tg t) ∧ ∀ (G : Type) (W : Wd G), EvGs C.K W t ps
section
variable {C : CF} {pos : Pos}
theorem g_name (i : Nat) {x : Str} (hi : C.N[i]? = some x := by rfl) (hx : ∀ j, Loc (C.X j).env.scope x := by intro _; first | exact Or.inl rfl | exact Or.inr rfl) (hf : ∀ j, (C.X j).fn x = true ∨ (C.X j).env.scope.names.lookup x = some .local := by intro _; first | exact .inl rfl | exact .inr rfl) : DG C (.Name x pos) (.nm i) :=
  ⟨_, fun j => pg_name (C.nd' j) (by rw [C.hN j]; exact hi) (hx j) (hf j), fun G W P₀ H₀ P O σ st τ ts H g d v st' Q A hA n R r h q => by
    have hA2 : A = false := by
      cases A with
      | false => rfl
      | true => exact absurd (hA rfl) (by simp [Pt.isTp])
    subst hA2
    simp only [asg] at h
    split at h
    · rename_i hl
      cases h
      exact q _ (fun vs hv => wipe_set σ i _ vs (hv i (by simp [Pt.ix]))) (R.setSh n (by simpa [RepF] using r) (by rw [← R.len]; exact hl))
    · cases h⟩
theorem gs_nil : DGs C [] [] := ⟨_, fun _ => pgs_nil, fun G W P₀ H₀ P O σ st τ ts H g ds vs st' Q n R r h q => by
  cases ds with
  | nil =>
    simp only [Reps] at r; subst r
    simp only [asgs, Option.some.injEq] at h; subst h
    exact ⟨rfl, q σ (fun _ _ => rfl) R⟩
  | cons d ds => simp [asgs] at h⟩
theorem gs_cons {e : Expr} {es : List Expr} {p : Pt} {ps : List Pt} (h1 : DG C e p) (h2 : DGs C es ps) (hs : ∀ j, (assignEach (e :: es) (C.X j).env).map (·.2) = assign e (C.X j).env :: (assignEach es (C.X j).env).map (·.2) := by intro _; rfl) : DGs C (e :: es) (p :: ps) := by
  obtain ⟨ta, pa, ea⟩ := h1.ex
  obtain ⟨tb, pb, eb⟩ := h2.ex
  refine ⟨_, fun j => pgs_cons (pa j) (pb j) (hs j), fun G W P₀ H₀ P O σ st τ ts H g ds vs st' Q n R r h q => ?_⟩
  cases ds with
  | nil => simp [asgs] at h
  | cons d ds =>
    simp only [Reps] at r
    obtain ⟨v, r', rfl, r1, r2⟩ := r
    simp only [asgs] at h
    obtain ⟨st1, e1, h⟩ := Option.bind_eq_some_iff.mp h
    refine ⟨v, r', rfl, ea G W _ _ _ _ _ _ _ _ _ _ _ _ _ _ false (fun z => nomatch z) n R (by simpa [RepF] using r1) e1 fun σ' w1 R1 => ?_⟩
    refine eb G W _ _ _ _ _ _ _ _ _ _ _ _ _ _ n R1 r2 h fun σ2 w2 R2 => q σ2 (fun vs hv => ?_) R2
    rw [w2 vs fun i hi => hv i (by simp [Pt.ixs, hi]), w1 vs fun i hi => hv i (by simp [Pt.ixs, hi])]
theorem g_tup {es : List Expr} {k : Nat} {ps : List Pt} (h : DGs C es ps) (hp : ps.length = es.length := by rfl)
    (hn : ∀ j, (assignEach es (C.X j).env).length = es.length := by intro _; rfl) (hst : ∀ j, (assignEach es (C.X j).env).findIdx? (·.1) = none := by intro _; rfl) : DG C (.Tuple es k pos) (.tp ps) := by
  obtain ⟨ta, pa, ea⟩ := h.ex
  refine ⟨gTup C.K es.length ta, fun j => by rw [← C.hK j]; exact pg_tup (C.calm j) (pa j) (hn j) (hst j), fun G W P₀ H₀ P O σ st τ ts H g d v st' Q A hA n R r h q => ?_⟩
  cases d with
  | tup ds =>
    have r' : RepA C.K W P (.tup ds) v := by
      cases A with
      | true => simpa [RepF] using r
      | false =>
        have r2 : Rep C.K W P (.tup ds) v := by simpa [RepF] using r
        simp only [Rep] at r2
        obtain ⟨a, xs, rfl, sq, _, rs⟩ := r2
        exact ⟨a, xs, rfl, sq.sq, rs⟩
    obtain ⟨a, xs, rfl, sq, rs⟩ := r'
    simp only [asg] at h
    refine ⟨a, xs, rfl, R.sub.sqT sq, ?_, ea G W _ _ _ _ _ _ _ _ _ _ _ _ _ _ n R rs h q⟩
    rw [rs.length, ← hp]
    clear hp hn hst ea pa rs sq R q r
    have : ∀ (ps : List Pt) (ds : List D) (st : Sl), asgs ps ds st = some st' → ds.length = ps.length := by
      intro ps
      induction ps with
      | nil => intro ds st h; cases ds with
        | nil => rfl
        | cons d ds => simp [asgs] at h
      | cons p ps ih => intro ds st h; cases ds with
        | nil => simp [asgs] at h
        | cons d ds =>
          simp only [asgs] at h
          obtain ⟨st1, e1, h⟩ := Option.bind_eq_some_iff.mp h
          simp [ih _ _ h]
    exact this ps ds st h
  | _ => simp [asg] at h
end
/-- a, b = e -/
def mUnp (p : Pt) (f : M G S) : M G Fl := fun st g => bnd (mTake f st g) fun d st g => (asg p d st).map fun st => (.nx, st, g)
/-! ### the def -/
def mFn (n m : Nat) (b : M G Fl) : Fn G := fun ds g => if ds.length = n then
    (match b (ds.map (fun d => some (.sh d)) ++ List.replicate (m - n) none) g with
    | some (.rt d, _, g) => some (d, g)
    | some (.nx, _, g) => some (.non, g)
    | _ => none)
  else none
theorem Reps.slots {K : PySem.W.Frag} {W : Wd G} {P : Hp} : ∀ {ds : List D} {vs : List V}, Reps K W P ds vs → ∀ (m i : Nat) s, (ds.map (fun d => some (S.sh d)) ++ List.replicate m none)[i]? = some (some s) →
    ∃ v, (vs.map some ++ List.replicate m none)[i]? = some (some v) ∧ ∃ d, s = .sh d ∧ Rep K W P d v
  | [], vs, r, m, i, s, e => by
    simp only [List.map_nil, List.nil_append] at e
    have := List.mem_of_getElem? e
    rw [List.mem_replicate] at this
    cases this.2
  | d :: ds, vs, r, m, 0, s, e => by
    simp only [Reps] at r
    obtain ⟨v, r', rfl, r1, r2⟩ := r
    simp only [List.map_cons, List.cons_append, List.getElem?_cons_zero, Option.some.injEq] at e
    exact ⟨v, rfl, d, e.symm, r1⟩
  | d :: ds, vs, r, m, i + 1, s, e => by
    simp only [Reps] at r
    obtain ⟨v, r', rfl, r1, r2⟩ := r
    simp only [List.map_cons, List.cons_append, List.getElem?_cons_succ] at e ⊢
    exact Reps.slots r2 m i s e
structure FI (k : Nat) (qual : Str) (stm : Stmt) (f : Addr) where
  cdv : Value
  A : Around
  outer : List Env
  s : Shared
  H : Hp
  E : XK
  hr : Room k (A.deeper (PyProof.Rows.envOfC qual (defScope stm) s.heap.objs.size f cdv))
  hgd : A.guards = some []
/-- the contexts of a def's body -/
def fcx (P : Program) (w : World) (K : PySem.W.Frag) (mg : Str → Option Value) (base : Heap) (N : List Str) (k : Nat) (qual : Str) (stm : Stmt) (f : Addr) (nd : N.Nodup) : CF where
  ι := FI k qual stm f
  X := fun j => (cxOf CX0 P w K mg base N qual (defScope stm) f j.cdv j.A j.outer j.s j.H j.E).nox
  prog := P
  w := w
  K := K
  mg := mg
  base := base
  N := N
  room := k
  hP := fun _ => rfl
  hw := fun _ => rfl
  hK := fun _ => rfl
  hmg := fun _ => rfl
  hbase := fun _ => rfl
  hN := fun _ => rfl
  nd := nd
  calm := fun _ => rfl
  hr := fun j => j.hr
  hgd := fun j => j.hgd
  xe := fun _ => rfl
theorem fnG_to {P : Program} {w : World} {K : PySem.W.Frag} {mg : Str → Option Value} {base : Heap} {Fam : Wd G → Prop} {k : Nat} {x qual : Str} {stm : Stmt} {f : Addr} {fd : FuncData} {N ps : List Str} {b : M G Fl} {n : Nat}
    (F : Fun K x qual stm f fd) (Sc : FnScope N ps (defScope stm)) (hn : ps.length = n)
    (hbody : DSs (fcx P w K mg base N k qual stm f Sc.nd) Fam (defBody stm) b) : DZ.FnG P w K mg base CX0 (k + 1) f fd ps (spF K Fam n (mFn n N.length b)) := by
  refine DZ.fnG_of F Sc (fun vs H Q E h => ?_) (fun cdv A outer s H vs Q E hr hgd h => ?_)
  · obtain ⟨W, P, ds, g, d, g', h1, h2, _⟩ := h; rw [h2, hn]
  · obtain ⟨W, Ph, ds, g, d, g', hW, h2, ⟨hsub, hnf, hw⟩, rp, hF, q⟩ := h
    obtain ⟨t, pt, et⟩ := hbody.ex
    have et := et W hW
    refine ⟨t, (pt ⟨cdv, A, outer, s, H, E, hr, hgd⟩).nox, ?_⟩
    unfold mFn at hF
    have hl : ds.length = n := by rw [← rp.length]; exact h2
    have hl2 : vs.length = n := h2
    rw [if_pos hl] at hF
    have R : RelB K W Ph H Ph (fun _ => none) (L2.start N vs) (ds.map (fun d => some (.sh d)) ++ List.replicate (N.length - n) none) [] [] H g := by
      refine ⟨hsub, fun _ _ e _ => e, Sub.refl _, fun a e => .inl e, hnf, (fun a t e => nomatch e), hw, ?_, fun i s e => ?_, trivial⟩
      · simp [L2.start, hl, hl2]
      · obtain ⟨v, e1, d', rfl, r⟩ := rp.slots _ i s e
        exact ⟨v, by simpa [L2.start, hl2] using e1, (fun _ q => nomatch q), r⟩
    have fin : ∀ {P' H' : Hp} {O' : Addr → Option Tag} {σ' : L2.St} {st' : Sl} {τ ts}, RelB K W Ph H P' O' σ' st' τ ts H' g' → Out W Ph H P' H' g' := fun R' =>
      ⟨R'.p0, R'.sub, R'.nfp, R'.new, R'.base, R'.wld⟩
    cases e : b (ds.map (fun d => some (.sh d)) ++ List.replicate (N.length - n) none) g with
    | none => rw [e] at hF; cases hF
    | some r =>
      obtain ⟨fl, st', g2⟩ := r
      rw [e] at hF
      cases fl with
      | rt d' =>
        simp only [Option.some.injEq, Prod.mk.injEq] at hF; obtain ⟨rfl, rfl⟩ := hF
        refine et _ _ _ _ _ _ _ _ _ _ _ _ (fun i z => by cases z) ⟨_, _, R⟩ e fun σ' v H' R' => ?_
        obtain ⟨P', O', R'⟩ := R'
        exact q v H' P' (fin R') R'.temps.1
      | nx =>
        simp only [Option.some.injEq, Prod.mk.injEq] at hF; obtain ⟨rfl, rfl⟩ := hF
        refine et _ _ _ _ _ _ _ _ _ _ _ _ (fun i z => by cases z) ⟨_, _, R⟩ e fun σ' H' R' => ?_
        obtain ⟨P', O', R'⟩ := R'
        exact q .non H' P' (fin R') (by simp [Rep])
      | bk => cases hF
      | ct => cases hF
end DL
namespace DL
open PySem PySem.Spec L2
variable {G : Type}
/-! ### what is walked -/
def Yields (K : PySem.W.Frag) (W : Wd G) (A : Bool) (J : It) (items : List D) (cv : List V) (cells : List S) : Prop :=
  items.length ≤ sizeLine ∧ cv.length = cells.length ∧ NoAt cells ∧
  ∀ (P₀ H₀ : Hp) (σ : L2.St) (st : Sl) (ρ : List V) (rs : List S) (τ : List V) (ts : List S) (H : Hp) (g : G), ρ.length = rs.length → Rel K W P₀ H₀ σ st (ρ ++ (cv ++ τ)) (rs ++ (cells ++ ts)) H g →
    (∀ (i : Nat) d, items[i]? = some d → J.go i H ∧ ∀ x H', J.yld i H x H' → ∃ P O, RelB K W P₀ H₀ P O σ st (ρ ++ (cv ++ τ)) (rs ++ (cells ++ ts)) H' g ∧ RepF K W P A d x) ∧
    (∀ i, items.length ≤ i → J.stop i H)
def EvI (K : PySem.W.Frag) (W : Wd G) (A : Bool) (wi : TI) (f : M G (List D × List S)) : Prop :=
  ∀ (P₀ H₀ : Hp) (σ : L2.St) (st : Sl) (τ : List V) (ts : List S) (H : Hp) (g : G) (items : List D) (cells : List S) (st' : Sl) (g' : G) (R : It → Hp → Prop),
    Rel K W P₀ H₀ σ st τ ts H g → f st g = some ((items, cells), st', g') →
    (∀ J cv H', Rel K W P₀ H₀ σ st' (cv ++ τ) (cells ++ ts) H' g' → Yields K W A J items cv cells → R J H') → wi σ H R
structure DI (C : CF) (Fam : Wd G → Prop) (A : Bool) (tg iter : Expr) (f : M G (List D × List S)) : Prop where
  ex : ∃ wi, (∀ j, PI (C.X j) tg iter wi) ∧ ∀ W, Fam W → EvI C.K W A wi f
def forM (p : Pt) (body : M G Fl) : List D → M G Fl
  | [], st, g => some (.nx, st, g)
  | d :: ds, st, g => (asg p d st).bind fun st => bnd (body st g) fun fl st g => match fl with
    | .nx => forM p body ds st g
    | .ct => forM p body ds st g
    | .bk => some (.nx, st, g)
    | .rt d => some (.rt d, st, g)
def mFor (src : M G (List D × List S)) (p : Pt) (body : M G Fl) : M G Fl := fun st g => bnd (src st g) fun x st g => forM p body x.1 st g
theorem drop_at {α : Type} {l : List α} {i : Nat} {d : α} (h : l[i]? = some d) : l.drop i = d :: l.drop (i + 1) := by
  obtain ⟨hl, e⟩ := List.getElem?_eq_some_iff.mp h
  rw [List.drop_eq_getElem_cons hl, e]
theorem ev_for {K : PySem.W.Frag} {W : Wd G} {wi : TI} {tg : TG} {tb : TS} {src : M G (List D × List S)} {p : Pt} {body : M G Fl} {A : Bool} (hA : A = true → p.isTp = true) (hi : EvI K W A wi src) (hg : EvG K W tg p) (hb : EvS K W tb body) : EvS K W (tFor wi tg tb) (mFor src p body) := by
  intro P₀ H₀ σ st τ ts H g fl st' g' E n R h q
  obtain ⟨⟨items, cells⟩, st1, g1, e1, h⟩ := bnd_eq h
  refine hi _ _ _ _ _ _ _ _ _ _ _ _ _ R e1 fun J cv H1 R1 Y => ?_
  obtain ⟨hz, hcl, hna, hY⟩ := Y
  refine ⟨fun i m σ H => i + m = items.length ∧ ∃ st g, Rel K W P₀ H₀ σ st (cv ++ τ) (cells ++ ts) H g ∧ forM p body (items.drop i) st g = some (fl, st', g'),
    ⟨items.length, by omega, st1, g1, R1, by simpa using h⟩, fun i m σ H hW => ?_⟩
  obtain ⟨em, st2, g2, R2, h2⟩ := hW
  have n2 : NoAt (cells ++ ts) := hna.app n
  obtain ⟨hgo, hstop⟩ := hY P₀ H₀ σ st2 [] [] τ ts H g2 rfl R2
  simp only [List.nil_append] at hgo
  by_cases hlt : i < items.length
  · right
    have ei : items[i]? = some items[i] := List.getElem?_eq_getElem hlt
    obtain ⟨h3, h4⟩ := hgo i _ ei
    rw [drop_at ei] at h2
    simp only [forM] at h2
    obtain ⟨st3, e3, h2⟩ := Option.bind_eq_some_iff.mp h2
    obtain ⟨f4, st4, g4, e4, h2⟩ := bnd_eq h2
    refine ⟨h3, fun σ' H' => i + 1 + (m - 1) = items.length ∧ ∃ st g, Rel K W P₀ H₀ σ' st (cv ++ τ) (cells ++ ts) H' g ∧ forM p body (items.drop (i + 1)) st g = some (fl, st', g'), fun σ' H' hN => ⟨m - 1, by omega, hN⟩, fun x H' hy => ?_⟩
    obtain ⟨P, O, R3, r3⟩ := h4 x H' hy
    refine hg _ _ _ _ _ _ _ _ _ _ _ _ _ _ A hA n2 R3 r3 e3 fun σ2 _ R4 => ?_
    refine hb _ _ _ _ _ _ _ _ _ _ _ _ n2 ⟨P, O, R4⟩ e4 ?_
    cases f4 with
    | nx => exact fun σ' H' R' => ⟨by omega, _, _, R', h2⟩
    | ct => exact fun σ' H' R' => ⟨by omega, _, _, R', h2⟩
    | bk =>
      simp only [Option.some.injEq, Prod.mk.injEq] at h2; obtain ⟨rfl, rfl, rfl⟩ := h2
      exact fun σ' H' R' => q σ' H' (R'.drop hcl)
    | rt d =>
      simp only [Option.some.injEq, Prod.mk.injEq] at h2; obtain ⟨rfl, rfl, rfl⟩ := h2
      exact fun σ' v H' R' => q σ' v H' (R'.keepTop hcl)
  · left
    have hle : items.length ≤ i := Nat.le_of_not_lt hlt
    rw [List.drop_eq_nil_of_le hle] at h2
    simp only [forM, Option.some.injEq, Prod.mk.injEq] at h2; obtain ⟨rfl, rfl, rfl⟩ := h2
    exact ⟨hstop i hle, q _ _ (R2.drop hcl)⟩
section
variable {C : CF} {Fam : Wd G → Prop} {tg iter : Expr} {pos : Pos} {body : List Stmt}
theorem d_for {src : M G (List D × List S)} {p : Pt} {b : M G Fl} {A : Bool} (hi : DI C Fam A tg iter src) (hg : DG C tg p) (hb : DSs C Fam body b) (hA : A = true → p.isTp = true := by first | (intro h; cases h; done) | (intro _; rfl)) (hs : ∀ j x, foldedSetIterable iter (C.X j).env x = pure x := by intro _ _; rfl) :
    DS C Fam (.For tg iter body [] pos) (mFor src p b) := by
  obtain ⟨ti, pi, ei⟩ := hi.ex
  obtain ⟨ta, pa, ea⟩ := hg.ex
  obtain ⟨tb, pb, eb⟩ := hb.ex
  exact ⟨_, fun j => ps_for (by rw [C.xe j]; exact PassesOwn.never) (C.calm j) (pi j) (pa j) (pb j) (hs j), fun W hW => ev_for hA (ei W hW) (ea G W) (eb W hW)⟩
end
/-! ### while -/
def whileM (c : M G Bool) (b : M G Fl) : Nat → M G Fl
  | 0, _, _ => none
  | n + 1, st, g => bnd (c st g) fun t st g => if t = true then bnd (b st g) fun fl st g => (match fl with
      | .nx => whileM c b n st g
      | .ct => whileM c b n st g
      | .bk => some (.nx, st, g)
      | .rt d => some (.rt d, st, g))
    else some (.nx, st, g)
theorem whileM_mono {c : M G Bool} {b : M G Fl} : ∀ (n : Nat) (st : Sl) (g : G) r, whileM c b n st g = some r → whileM c b (n + 1) st g = some r
  | 0, _, _, _, h => by cases h
  | n + 1, st, g, r, h => by
    simp only [whileM] at h
    obtain ⟨t, st1, g1, e1, h⟩ := bnd_eq h
    rw [whileM, e1, bnd_some]
    split at h
    · rename_i ht
      rw [if_pos ht]
      obtain ⟨f, st2, g2, e2, h⟩ := bnd_eq h
      rw [e2, bnd_some]
      cases f with
      | nx => exact whileM_mono n _ _ _ h
      | ct => exact whileM_mono n _ _ _ h
      | bk => exact h
      | rt d => exact h
    · rename_i ht
      rw [if_neg ht]; exact h
theorem whileM_le {c : M G Bool} {b : M G Fl} {n m : Nat} (h : n ≤ m) {st : Sl} {g : G} {r} (e : whileM c b n st g = some r) : whileM c b m st g = some r := by
  induction h with
  | refl => exact e
  | step _ ih => exact whileM_mono _ _ _ _ ih
open Classical in
noncomputable def mWhile (c : M G Bool) (b : M G Fl) : M G Fl := fun st g =>
  if h : ∃ n, (whileM c b n st g).isSome = true then whileM c b h.choose st g else none
theorem mWhile_of {c : M G Bool} {b : M G Fl} {n : Nat} {st : Sl} {g : G} {r} (e : whileM c b n st g = some r) : mWhile c b st g = some r := by
  have h : ∃ n, (whileM c b n st g).isSome = true := ⟨n, by rw [e]; rfl⟩
  rw [mWhile, dif_pos h]
  obtain ⟨r', e'⟩ := Option.isSome_iff_exists.mp h.choose_spec
  rw [e']
  rcases Nat.le_total n h.choose with l | l
  · rw [whileM_le l e] at e'; exact e'.symm
  · rw [whileM_le l e'] at e; exact e
theorem mWhile_eq {c : M G Bool} {b : M G Fl} {st : Sl} {g : G} {r} (e : mWhile c b st g = some r) : ∃ n, whileM c b n st g = some r := by
  unfold mWhile at e
  split at e
  · exact ⟨_, e⟩
  · cases e
theorem ev_while {K : PySem.W.Frag} {W : Wd G} {tc : TT} {tb : TS} {c : M G Bool} {b : M G Fl} (hc : EvT K W tc c) (hb : EvS K W tb b) : EvS K W (tWhile tc tb) (mWhile c b) := by
  intro P₀ H₀ σ st τ ts H g fl st' g' E n R h q
  obtain ⟨m, h⟩ := mWhile_eq h
  refine ⟨fun m σ H => ∃ st g, Rel K W P₀ H₀ σ st τ ts H g ∧ whileM c b m st g = some (fl, st', g'), ⟨m, st, g, R, h⟩, fun m σ H hW => ?_⟩
  obtain ⟨st1, g1, R1, h1⟩ := hW
  cases m with
  | zero => cases h1
  | succ m =>
    simp only [whileM] at h1
    obtain ⟨t, st2, g2, e2, h1⟩ := bnd_eq h1
    refine hc _ _ _ _ _ _ _ _ _ _ _ _ R1 e2 fun H2 R2 => ?_
    cases t with
    | false =>
      rw [if_neg (by simp)] at h1 ⊢
      simp only [Option.some.injEq, Prod.mk.injEq] at h1; obtain ⟨rfl, rfl, rfl⟩ := h1
      exact q _ _ R2
    | true =>
      rw [if_pos rfl] at h1 ⊢
      obtain ⟨f4, st4, g4, e4, h2⟩ := bnd_eq h1
      refine ⟨fun σ' H' => ∃ st g, Rel K W P₀ H₀ σ' st τ ts H' g ∧ whileM c b m st g = some (fl, st', g'), fun σ' H' hN => ⟨m, by omega, hN⟩, ?_⟩
      refine hb _ _ _ _ _ _ _ _ _ _ _ _ n R2 e4 ?_
      cases f4 with
      | nx => exact fun σ' H' R' => ⟨_, _, R', h2⟩
      | ct => exact fun σ' H' R' => ⟨_, _, R', h2⟩
      | bk =>
        simp only [Option.some.injEq, Prod.mk.injEq] at h2; obtain ⟨rfl, rfl, rfl⟩ := h2
        exact fun σ' H' R' => q σ' H' R'
      | rt d =>
        simp only [Option.some.injEq, Prod.mk.injEq] at h2; obtain ⟨rfl, rfl, rfl⟩ := h2
        exact fun σ' v H' R' => q σ' v H' R'
section
variable {C : CF} {Fam : Wd G → Prop} {c : Expr} {pos : Pos} {body : List Stmt}
theorem d_while {x : M G Bool} {b : M G Fl} (hc : DT C Fam c x) (hb : DSs C Fam body b) : DS C Fam (.While c body [] pos) (mWhile x b) := by
  obtain ⟨ta, pa, ea⟩ := hc.ex
  obtain ⟨tb, pb, eb⟩ := hb.ex
  exact ⟨_, fun j => ps_while (by rw [C.xe j]; exact PassesOwn.never) (pa j) (pb j), fun W hW => ev_while (ea W hW) (eb W hW)⟩
end
/-! ### list comprehensions -/
def hide : S → S
  | .at _ => .any
  | .sh d => .sh d
  | .ow d => .ow d
  | .any => .any
def wipeS (st : Sl) : List Nat → Sl
  | [] => st
  | v :: vs => (wipeS st vs).set v none
theorem wipeS_length (st : Sl) : ∀ vs : List Nat, (wipeS st vs).length = st.length
  | [] => rfl
  | v :: vs => by simp [wipeS, wipeS_length st vs]
theorem wipeS_some {st : Sl} {i : Nat} {s : S} : ∀ {vs : List Nat}, (wipeS st vs)[i]? = some (some s) → st[i]? = some (some s) ∧ i ∉ vs
  | [], h => ⟨h, by simp⟩
  | v :: vs, h => by
    simp only [wipeS] at h
    by_cases e : v = i
    · subst e
      by_cases hl : v < (wipeS st vs).length
      · rw [List.getElem?_set_self hl] at h; cases h
      · rw [List.getElem?_eq_none (by simpa using Nat.le_of_not_lt hl)] at h; cases h
    · rw [List.getElem?_set_ne e] at h
      obtain ⟨h1, h2⟩ := wipeS_some h
      exact ⟨h1, by simp [h2, Ne.symm e]⟩
theorem hide_noAt (ts : List S) : NoAt (ts.map hide) := fun i h => by
  obtain ⟨s, _, e⟩ := List.mem_map.mp h
  cases s <;> cases e
section
variable {K : PySem.W.Frag} {W : Wd G} {P₀ H₀ P H P' H' : Hp} {O O' : Addr → Option Tag} {σ σ' : L2.St} {st st' : Sl} {τ : List V} {ts : List S} {g : G} {v : V} {s : S} {d : D} {vs : List Nat}
theorem TOk.hide : ∀ {τ : List V} {ts : List S}, TOk K W P O H σ τ ts → TOk K W P O H σ' τ (ts.map DL.hide)
  | [], [], h => h
  | v :: τ, s :: ts, h => by
    refine ⟨?_, TOk.hide h.2⟩
    have h1 := h.1
    cases s with
    | sh e => exact h1
    | ow e => exact h1
    | any => exact h1
    | «at» i => exact trivial
  | [], _ :: _, h => h.elim
  | _ :: _, [], h => h.elim
theorem TOk.unhide : ∀ {τ : List V} {ts : List S}, TOk K W P O H σ τ ts → TOk K W P' O' H' σ' τ (ts.map DL.hide) → TOk K W P' O' H' σ τ ts
  | [], [], _, h => h
  | v :: τ, s :: ts, h0, h => by
    refine ⟨?_, TOk.unhide h0.2 h.2⟩
    have h1 := h.1
    cases s with
    | sh e => exact h1
    | ow e => exact h1
    | any => exact h1
    | «at» i => exact h0.1
  | [], _ :: _, h, _ => h.elim
  | _ :: _, [], h, _ => h.elim
theorem RelB.hide (R : RelB K W P₀ H₀ P O σ st τ ts H g) : RelB K W P₀ H₀ P O σ st τ (ts.map DL.hide) H g := { R with temps := R.temps.hide }
theorem SOk.sigma {t : Tag} (h : SOk K W P O H σ t v s) (n : ∀ j, s ≠ .at j) : SOk K W P O H σ' t v s := by
  cases s with
  | sh e => exact h
  | ow e => exact h
  | any => exact h
  | «at» i => exact absurd rfl (n i)
theorem RelB.wipe (R : RelB K W P₀ H₀ P O σ st τ ts H g) (n : NoAt ts) : RelB K W P₀ H₀ P O (wipe σ vs) (wipeS st vs) τ ts H g := by
  refine { R with len := by rw [wipeS_length, wipe_length]; exact R.len, slots := fun i s e => ?_, temps := R.temps.noAt n }
  obtain ⟨e1, hv⟩ := wipeS_some e
  obtain ⟨v, e2, e3, q⟩ := R.slots i s e1
  exact ⟨v, by rw [wipe_out hv]; exact e2, e3, q.sigma e3⟩
theorem RelB.unwipe (R : RelB K W P₀ H₀ P O (L2.wipe σ vs) (wipeS st vs) τ ts H g) (n : NoAt ts) : RelB K W P₀ H₀ P O σ (wipeS st vs) τ ts H g := by
  refine { R with len := by have := R.len; rw [wipe_length] at this; exact this, slots := fun i s e => ?_, temps := R.temps.noAt n }
  obtain ⟨e1, hv⟩ := wipeS_some e
  obtain ⟨v, e2, e3, q⟩ := R.slots i s e
  exact ⟨v, by rw [wipe_out hv] at e2; exact e2, e3, q.sigma e3⟩
theorem RelB.writeT {a : Addr} {o' : HO} {d' : D} (R : RelB K W P₀ H₀ P O σ st (.ref a :: τ) (.ow d :: ts) H g) (hd : Own K W P a o' d') : RelB K W P₀ H₀ P O σ st (.ref a :: τ) (.ow d' :: ts) (upd H a o') g := by
  obtain ⟨a', o, ev, eO, eH, q⟩ := R.temps.1
  cases ev
  have own := R.own a _ eO
  have ne : ∀ b t, O b = some t → t ≠ .tmp τ.length → b ≠ a := fun b t z ht y => by subst y; rw [eO] at z; exact ht (Option.some.inj z).symm
  refine { R with sub := fun b u z => ?_, base := fun b u z n => ?_, own := fun b t z => ?_, wld := ?_, slots := fun j s z => ?_, temps := ⟨⟨a, o', rfl, eO, upd_same, hd⟩, ?_⟩ }
  · rw [upd_ne (ne_of_none z own.1)]; exact R.sub b u z
  · rw [upd_ne (ne_of_none z own.2.1)]; exact R.base b u z n
  · obtain ⟨h1, h2, h3, h4⟩ := R.own b t z
    refine ⟨h1, h2, h3, ?_⟩
    by_cases hb : b = a
    · subst hb; rw [upd_same]; simp
    · rw [upd_ne hb]; exact h4
  · exact W.loc g H _ R.wld fun b hb => upd_ne fun y => own.2.2.1 (y ▸ hb)
  · obtain ⟨v', e1, e2, q⟩ := R.slots j s z
    exact ⟨v', e1, e2, q.mono (Sub.refl P) (fun _ z => z) fun b u z w' => by
      rw [upd_ne (ne b _ z fun y => nomatch y)]; exact w'⟩
  · exact R.temps.2.mono (Sub.refl P) (fun _ _ _ z => z) fun b u k hk z w' => by
      rw [upd_ne (ne b _ z fun y => by cases y; exact absurd hk (Nat.lt_irrefl _))]; exact w'
end
theorem wipe_wipe (σ : L2.St) (vs : List Nat) : wipe (wipe σ vs) vs = wipe σ vs := by
  have : ∀ (ws us : List Nat) (σ : L2.St), (∀ w ∈ ws, w ∈ us) → wipe (wipe σ ws) us = wipe σ us := by
    intro ws
    induction ws with
    | nil => intro us σ _; rfl
    | cons w ws ih =>
      intro us σ hs
      simp only [wipe]
      rw [wipe_set _ w none us (hs w List.mem_cons_self)]
      exact ih us σ fun x hx => hs x (List.mem_cons_of_mem _ hx)
  exact this vs vs σ fun _ h => h
def compM (p : Pt) (vs : List Nat) (test : M G Bool) (elt : M G S) : List D → List D → M G (List D)
  | [], acc, st, g => some (acc, st, g)
  | d :: ds, acc, st, g => (asg p d (wipeS st vs)).bind fun st => bnd (test st g) fun b st g =>
      if b = true then bnd (mTake elt st g) fun y st g => compM p vs test elt ds (acc ++ [y]) st g else compM p vs test elt ds acc st g
theorem lc_run {K : PySem.W.Frag} {W : Wd G} {J : It} {items : List D} {cv : List V} {cells : List S} {tg : TG} {tt : TT} {te : TE} {p : Pt} {vs : List Nat} {test : M G Bool} {elt : M G S} {A : Bool} (hA : A = true → p.isTp = true)
    (hY : Yields K W A J items cv cells) (hg : EvG K W tg p) (ht : EvT K W tt test) (he : EvE K W te elt) (hv : ∀ i ∈ p.ix, i ∈ vs)
    {P₀ H₀ : Hp} {σ : L2.St} {st : Sl} {τ : List V} {ts : List S} {H1 : Hp} {g : G} {accN : List D} {stN : Sl} {gN : G} {Qd : Hp → Prop} {D0 : Addr} (h0 : H1 D0 = none)
    (R : Rel K W P₀ H₀ σ st (cv ++ τ) (cells ++ ts) H1 g) (h : compM p vs test elt items [] st g = some (accN, stN, gN))
    (q : ∀ H', Rel K W P₀ H₀ σ (wipeS stN vs) (.ref D0 :: (cv ++ τ)) (.ow (.lst accN) :: (cells ++ ts)) H' gN → Qd H') :
    ∃ Wi : Nat → Nat → Hp → Prop, (∃ m, Wi 0 m (upd H1 D0 (.lst []))) ∧ ∀ i m H, Wi i m H →
      (J.stop i H ∧ Qd H) ∨ (J.go i H ∧ ∃ Nx : Hp → Prop, (∀ H', Nx H' → ∃ m', m' < m ∧ Wi (i + 1) m' H') ∧ ∀ x H', J.yld i H x H' → tg x (wipe σ vs) H' fun σ2 H2 => wipe σ2 vs = wipe σ vs ∧ tt σ2 H2 fun b H3 =>
        if b = true then te σ2 H3 fun y H4 => ∃ acc, H4 D0 = some (.lst acc) ∧ acc.length < sizeLine ∧ Nx (upd H4 D0 (.lst (acc ++ [y]))) else Nx H3) := by
  obtain ⟨hz, hcl, hna, hYy⟩ := hY
  have nh : NoAt (cells ++ ts.map DL.hide) := hna.app (hide_noAt ts)
  have nh2 : ∀ d, NoAt (.ow d :: (cells ++ ts.map DL.hide)) := fun d i z => by
    rcases List.mem_cons.mp z with z | z
    · cases z
    · exact nh i z
  have hlen : ∀ {P O σ H}, TOk K W P O H σ (cv ++ τ) (cells ++ ts) → τ.length = ts.length := fun t => by
    have := t.len; rw [List.length_append, List.length_append, hcl] at this; omega
  refine ⟨fun i m H => i + m = items.length ∧ ∃ st g acc, Rel K W P₀ H₀ (wipe σ vs) (wipeS st vs) (.ref D0 :: (cv ++ τ)) (.ow (.lst acc) :: (cells ++ ts.map DL.hide)) H g ∧ acc.length ≤ i ∧ compM p vs test elt (items.drop i) acc st g = some (accN, stN, gN),
    ⟨items.length, by omega, st, g, [], ?_, Nat.le_refl _, by simpa using h⟩, fun i m H hW => ?_⟩
  · obtain ⟨P, O, R⟩ := R
    have R' : RelB K W P₀ H₀ P O σ st (cv ++ τ) (cells ++ ts.map DL.hide) H1 g := by
      have := R.hide
      rw [List.map_append] at this
      have e : cells.map DL.hide = cells := by
        have : ∀ cs : List S, NoAt cs → cs.map DL.hide = cs := by
          intro cs
          induction cs with
          | nil => intro _; rfl
          | cons c cs ih =>
            intro n
            rw [List.map_cons, ih fun i z => n i (List.mem_cons_of_mem _ z)]
            cases c with
            | «at» j => exact absurd List.mem_cons_self (n j)
            | _ => rfl
        exact this cells hna
      rw [e] at this; exact this
    obtain ⟨O', R2⟩ := R'.laidOwn (d := .lst []) h0 ⟨[], rfl, Nat.zero_le _, by simp [Reps]⟩
    exact ⟨P, O', R2.wipe (nh2 _)⟩
  · obtain ⟨em, st2, g2, acc, R2, ha, h2⟩ := hW
    obtain ⟨hgo, hstop⟩ := hYy P₀ H₀ _ _ [.ref D0] [.ow (.lst acc)] τ (ts.map DL.hide) H g2 rfl R2
    by_cases hlt : i < items.length
    · right
      have ei : items[i]? = some items[i] := List.getElem?_eq_getElem hlt
      obtain ⟨h3, h4⟩ := hgo i _ ei
      rw [drop_at ei] at h2
      simp only [compM] at h2
      obtain ⟨st3, e3, h2⟩ := Option.bind_eq_some_iff.mp h2
      obtain ⟨b, st4, g4, e4, h2⟩ := bnd_eq h2
      refine ⟨h3, fun H' => i + 1 + (m - 1) = items.length ∧ ∃ st g acc, Rel K W P₀ H₀ (wipe σ vs) (wipeS st vs) (.ref D0 :: (cv ++ τ)) (.ow (.lst acc) :: (cells ++ ts.map DL.hide)) H' g ∧ acc.length ≤ i + 1 ∧ compM p vs test elt (items.drop (i + 1)) acc st g = some (accN, stN, gN), fun H' hN => ⟨m - 1, by omega, hN⟩, fun x H' hy => ?_⟩
      obtain ⟨P, O, R3, r3⟩ := h4 x H' hy
      refine hg _ _ _ _ _ _ _ _ _ _ _ _ _ _ A hA (nh2 _) R3 r3 e3 fun σ2 w2 R4 => ?_
      have w3 : wipe σ2 vs = wipe σ vs := by
        rw [w2 vs hv]
        exact wipe_wipe σ vs
      refine ⟨w3, ht _ _ _ _ _ _ _ _ _ _ _ _ ⟨P, O, R4⟩ e4 fun H3 R5 => ?_⟩
      cases b with
      | false =>
        rw [if_neg (by simp)] at h2 ⊢
        obtain ⟨P, O, R5⟩ := R5
        have R6 := R5.wipe (vs := vs) (nh2 _)
        rw [w3] at R6
        exact ⟨by omega, st4, g4, acc, ⟨P, O, R6⟩, by omega, h2⟩
      | true =>
        rw [if_pos rfl] at h2 ⊢
        obtain ⟨y, st5, g5, e5, h2⟩ := bnd_eq h2
        obtain ⟨r, st0, e6, e7⟩ := mTake_eq e5
        refine he _ _ _ _ _ _ _ _ _ _ _ _ R5 e6 fun v H4 R6 => ?_
        obtain ⟨P, O, R6⟩ := R6
        obtain ⟨P', O', R6⟩ := R6.takeV e7
        have ry : Rep K W P' y v := R6.temps.1
        have R7 := R6.pop
        obtain ⟨a', o, ev, eO, eH, xs, rfl, hzx, rx⟩ := R7.temps.1
        cases ev
        have hzz : acc.length + 1 ≤ sizeLine := by omega
        refine ⟨xs, eH, by rw [rx.length]; omega, by omega, st5, g5, acc ++ [y], ?_, by simp; omega, h2⟩
        have R8 := (R7.writeT (o' := .lst (xs ++ [v])) (d' := .lst (acc ++ [y])) ⟨_, rfl, by simp; omega, rx.append (Reps.one ry)⟩).wipe (vs := vs) (nh2 _)
        rw [w3] at R8
        exact ⟨P', O', R8⟩
    · left
      have hle : items.length ≤ i := Nat.le_of_not_lt hlt
      rw [List.drop_eq_nil_of_le hle] at h2
      simp only [compM, Option.some.injEq, Prod.mk.injEq] at h2; obtain ⟨rfl, rfl, rfl⟩ := h2
      refine ⟨hstop i hle, q _ ?_⟩
      obtain ⟨P, O, R2⟩ := R2
      obtain ⟨P1, O1, R1⟩ := R
      have R3 := R2.unwipe (nh2 _)
      refine ⟨P, O, { R3 with temps := ⟨R3.temps.1, ?_⟩ }⟩
      have t1 : TOk K W P1 O1 H1 σ (cv ++ τ) (cells ++ ts) := R1.temps
      have t2 : TOk K W P O H σ (cv ++ τ) (cells ++ ts.map DL.hide) := R3.temps.2
      -- the cells have no at
      have : ∀ (cv : List V) (cells : List S), cv.length = cells.length → NoAt cells → TOk K W P1 O1 H1 σ (cv ++ τ) (cells ++ ts) → TOk K W P O H σ (cv ++ τ) (cells ++ ts.map DL.hide) → TOk K W P O H σ (cv ++ τ) (cells ++ ts) := by
        intro cv
        induction cv with
        | nil => intro cells hl n a b; cases cells with
          | nil => exact TOk.unhide a b
          | cons c cs => simp at hl
        | cons c cv ih => intro cells hl n a b; cases cells with
          | nil => simp at hl
          | cons s cs =>
            refine ⟨?_, ih cs (by simpa using hl) (fun i z => n i (List.mem_cons_of_mem _ z)) a.2 b.2⟩
            have b1 := b.1
            have e : (cv ++ τ).length = (cv ++ τ).length := rfl
            exact b1
      exact this cv cells hcl hna t1 t2
def mLc (src : M G (List D × List S)) (p : Pt) (vs : List Nat) (test : M G Bool) (elt : M G S) : M G S := fun st g =>
  bnd (src st g) fun x st g => bnd (compM p vs test elt x.1 [] st g) fun acc st g => some (.ow (.lst acc), wipeS st vs, g)
theorem RelB.under {K : PySem.W.Frag} {W : Wd G} {P₀ H₀ P H : Hp} {O : Addr → Option Tag} {σ : L2.St} {st : Sl} {cv τ : List V} {cells ts : List S} {g : G} {a : Addr} {d : D} (R : RelB K W P₀ H₀ P O σ st (.ref a :: (cv ++ τ)) (.ow d :: (cells ++ ts)) H g) (hl : cv.length = cells.length) :
    ∃ O', RelB K W P₀ H₀ P O' σ st (.ref a :: τ) (.ow d :: ts) H g := by
  obtain ⟨a', o, ev, eO, eH, q⟩ := R.temps.1
  cases ev
  have own := R.own a _ eO
  refine ⟨fun b => if b = a then some (.tmp τ.length) else O b, { R with own := fun b t z => ?_, slots := fun j s z => ?_, temps := ⟨⟨a, o, rfl, if_pos rfl, eH, q⟩, ?_⟩ }⟩
  · by_cases hb : b = a
    · subst hb; exact own
    · rw [if_neg hb] at z; exact R.own b t z
  · obtain ⟨v', e1, e2, q⟩ := R.slots j s z
    refine ⟨v', e1, e2, q.mono (Sub.refl P) (fun b z => (if_neg fun y => ?_).trans z) (fun _ _ _ z => z)⟩
    subst y; rw [eO] at z; cases z
  · refine TOk.mono (Sub.refl P) (fun b k hk z => (if_neg fun y => ?_).trans z) (fun _ _ _ _ _ z => z) (R.temps.2.drop hl)
    subst y; rw [eO] at z; cases z
    rw [List.length_append] at hk; omega
structure DTs (C : CF) (Fam : Wd G → Prop) (ifs : List Expr) (f : M G Bool) : Prop where
  ex : ∃ t, (∀ j, PTs (C.X j) ifs t) ∧ ∀ W, Fam W → EvT C.K W t f
def mYes : M G Bool := fun st g => some (true, st, g)
section
variable {C : CF} {Fam : Wd G → Prop} {tg iter elt : Expr} {ifs : List Expr} {scope : Scope} {pos : Pos} {own : List (Str × Nat)}
theorem t_nil : DTs C Fam [] mYes := ⟨_, fun _ => pts_nil, fun W hW P₀ H₀ σ st τ ts H g z st' g' Q R h q => by
  simp only [mYes, Option.some.injEq, Prod.mk.injEq] at h; obtain ⟨rfl, rfl, rfl⟩ := h
  exact q H R⟩
theorem t_one {c : Expr} {f : M G Bool} (h : DT C Fam c f) : DTs C Fam [c] f := let ⟨t, p, q⟩ := h.ex; ⟨t, fun j => pts_one (p j), q⟩
theorem ev_lc {K : PySem.W.Frag} {W : Wd G} {wi : TI} {tg : TG} {tt : TT} {te : TE} {src : M G (List D × List S)} {p : Pt} {vs : List Nat} {test : M G Bool} {elt : M G S} {A : Bool} (hA : A = true → p.isTp = true)
    (hi : EvI K W A wi src) (hg : EvG K W tg p) (ht : EvT K W tt test) (he : EvE K W te elt) (hv : ∀ i ∈ p.ix, i ∈ vs) : EvE K W (tLc wi tg tt te vs) (mLc src p vs test elt) := by
  intro P₀ H₀ σ st τ ts H g r st' g' Q R h q
  obtain ⟨⟨items, cells⟩, st1, g1, e1, h⟩ := bnd_eq h
  obtain ⟨acc, st2, g2, e2, h⟩ := bnd_eq h
  simp only [Option.some.injEq, Prod.mk.injEq] at h; obtain ⟨rfl, rfl, rfl⟩ := h
  refine hi _ _ _ _ _ _ _ _ _ _ _ _ _ R e1 fun J cv H1 R1 Y => fun D0 h0 => ?_
  refine lc_run hA Y hg ht he hv h0 R1 e2 fun H' R' => ?_
  obtain ⟨P, O, R'⟩ := R'
  obtain ⟨O', R2⟩ := R'.under Y.2.1
  exact q _ _ ⟨P, O', R2⟩
/-- the contexts of a comprehension's block -/
def CF.blk (C : CF) (scope : Scope) : CF where
  ι := C.ι × Shared × Hp × Addr × List (Str × Addr) × List Addr
  X := fun j => (C.X j.1).blk j.2.1 j.2.2.1 scope (PySem.compEnvC scope j.2.2.2.2.1 j.2.2.2.1 (C.X j.1).env) j.2.2.2.2.2
  prog := C.prog
  w := C.w
  K := C.K
  mg := C.mg
  base := C.base
  N := C.N
  room := C.room
  hP := fun j => C.hP j.1
  hw := fun j => C.hw j.1
  hK := fun j => C.hK j.1
  hmg := fun j => C.hmg j.1
  hbase := fun j => C.hbase j.1
  hN := fun j => C.hN j.1
  nd := C.nd
  calm := fun j => C.calm j.1
  hr := fun j => C.hr j.1
  hgd := fun j => C.hgd j.1
  xe := fun _ => rfl
theorem d_lc {src : M G (List D × List S)} {p : Pt} {test : M G Bool} {f : M G S} {A : Bool} (own : List (Str × Nat)) (hi : DI C Fam A tg iter src) (hg : DG (C.blk scope) tg p) (ht : DTs (C.blk scope) Fam ifs test) (he : DE (C.blk scope) Fam elt f)
    (ok : ∀ j, blkC C.N (C.X j).env.scope scope own = true := by intro _; decide +kernel) (hv : ∀ i ∈ p.ix, i ∈ own.map (·.2) := by decide) (hA : A = true → p.isTp = true := by first | (intro h; cases h; done) | (intro _; rfl)) (hs : ∀ j x, foldedSetIterable iter (C.X j).env x = pure x := by intro _ _; rfl) :
    DE C Fam (.ListComp elt [⟨tg, iter, ifs, 0⟩] scope pos) (mLc src p (own.map (·.2)) test f) := by
  obtain ⟨ti, pi, ei⟩ := hi.ex
  obtain ⟨ta, pa, ea⟩ := hg.ex
  obtain ⟨tt, pt, et⟩ := ht.ex
  obtain ⟨te, pe, ee⟩ := he.ex
  exact ⟨_, fun j => pe_lc (own := own) (C.calm j) (C.nd' j) (pi j) (by rw [C.hN j]; exact blkOk_by (ok j)) (fun s H Ca cl fp => pa (j, s, H, Ca, cl, fp)) (fun s H Ca cl fp => pt (j, s, H, Ca, cl, fp)) (fun s H Ca cl fp => pe (j, s, H, Ca, cl, fp)) (hs j),
    fun W hW => ev_lc hA (ei W hW) (ea G W) (et W hW) (ee W hW) hv⟩
/-- y = [.. for ..] on one line -/
theorem d_setLc {src : M G (List D × List S)} {p : Pt} {test : M G Bool} {f : M G S} (i : Nat) {A : Bool} (own : List (Str × Nat)) {y : Str} {py spos : Pos} (hi : DI C Fam A tg iter src) (hg : DG (C.blk scope) tg p) (ht : DTs (C.blk scope) Fam ifs test) (he : DE (C.blk scope) Fam elt f)
    (hy : C.N[i]? = some y := by rfl) (hyl : ∀ j, (C.X j).env.scope.names.lookup y = some .local := by intro _; rfl)
    (hsw : ∀ j, swapsWith (.ListComp elt [⟨tg, iter, ifs, 0⟩] scope pos) (some (.Name y py)) spos.line (C.X j).env = pure true := by intro _; exact sw_true rfl rfl rfl (by decide +kernel))
    (ok : ∀ j, blkC C.N (C.X j).env.scope scope own = true := by intro _; decide +kernel) (hv : ∀ i ∈ p.ix, i ∈ own.map (·.2) := by decide) (hA : A = true → p.isTp = true := by first | (intro h; cases h; done) | (intro _; rfl)) (hs : ∀ j x, foldedSetIterable iter (C.X j).env x = pure x := by intro _ _; rfl) :
    DS C Fam (.Assign [.Name y py] (.ListComp elt [⟨tg, iter, ifs, 0⟩] scope pos) spos) (mSet i (mLc src p (own.map (·.2)) test f)) := by
  obtain ⟨ti, pi, ei⟩ := hi.ex
  obtain ⟨ta, pa, ea⟩ := hg.ex
  obtain ⟨tt, pt, et⟩ := ht.ex
  obtain ⟨te, pe, ee⟩ := he.ex
  exact ⟨_, fun j => ps_setLc (own := own) (C.calm j) (C.nd' j) (by rw [C.hN j]; exact hy) (hyl j) (hsw j) (pi j) (by rw [C.hN j]; exact blkOk_by (ok j)) (fun s H Ca cl fp => pa (j, s, H, Ca, cl, fp)) (fun s H Ca cl fp => pt (j, s, H, Ca, cl, fp)) (fun s H Ca cl fp => pe (j, s, H, Ca, cl, fp)) (hs j),
    fun W hW => ev_set (ev_lc hA (ei W hW) (ea G W) (et W hW) (ee W hW) hv)⟩
end
end DL
namespace DL
open PySem PySem.Spec L2
variable {G : Type}
section
variable {K : PySem.W.Frag} {W : Wd G} {P₀ H₀ P H : Hp} {O : Addr → Option Tag} {σ : L2.St} {st st' : Sl} {τ ρ : List V} {ts rs : List S} {g : G} {v : V} {s : S} {d : D}
/-- a shared cell within the temporaries -/
theorem RelB.cell (R : RelB K W P₀ H₀ P O σ st (ρ ++ (v :: τ)) (rs ++ (.sh d :: ts)) H g) (e : ρ.length = rs.length) : Rep K W P d v := (R.temps.drop e).1
theorem RelB.cell2 {u : V} {d' : D} (R : RelB K W P₀ H₀ P O σ st (ρ ++ (v :: u :: τ)) (rs ++ (.sh d :: .sh d' :: ts)) H g) (e : ρ.length = rs.length) : Rep K W P d v ∧ Rep K W P d' u := ⟨(R.temps.drop e).1, (R.temps.drop e).2.1⟩
theorem noAt_sh (d : D) : NoAt [S.sh d] := fun i h => by simp at h
theorem noAt_sh2 (d d' : D) : NoAt [S.sh d, S.sh d'] := fun i h => by simp at h
theorem yields_lst {a : Addr} {ds : List D} (hz : ds.length ≤ sizeLine) : Yields K W false (Itl K a) ds [.ref a] [.sh (.lst ds)] := by
  refine ⟨hz, rfl, noAt_sh _, fun P₀ H₀ σ st ρ rs τ ts H g hl R => ?_⟩
  obtain ⟨P, O, R⟩ := R
  have c : Rep K W P (.lst ds) (.ref a) := R.cell hl
  simp only [Rep] at c
  obtain ⟨a', xs, e, sq, _, rp⟩ := c
  cases e
  have sq' : SqL K H a xs := SqL.of (R.sub _ _ sq)
  refine ⟨fun i d e => ?_, fun i hi => ⟨xs, sq', by rw [rp.length]; exact hi⟩⟩
  obtain ⟨x, ex, rx⟩ := rp.get e
  refine ⟨⟨xs, x, sq', ex⟩, fun y H' ⟨e1, e2⟩ => ?_⟩
  subst e1
  have : some x = some y := ex.symm.trans (e2 xs sq')
  cases this
  exact ⟨P, O, R, by simpa [RepF] using rx⟩
theorem yields_tup {a : Addr} {ds : List D} (hz : ds.length ≤ sizeLine) : Yields K W false (Itt K a) ds [.ref a] [.sh (.tup ds)] := by
  refine ⟨hz, rfl, noAt_sh _, fun P₀ H₀ σ st ρ rs τ ts H g hl R => ?_⟩
  obtain ⟨P, O, R⟩ := R
  have c : Rep K W P (.tup ds) (.ref a) := R.cell hl
  simp only [Rep] at c
  obtain ⟨a', xs, e, sq, _, rp⟩ := c
  cases e
  have sq' := R.sub.sqT sq.sq
  refine ⟨fun i d e => ?_, fun i hi => ⟨xs, sq', by rw [rp.length]; exact hi⟩⟩
  obtain ⟨x, ex, rx⟩ := rp.get e
  refine ⟨⟨xs, x, sq', ex⟩, fun y H' ⟨e1, e2⟩ => ?_⟩
  subst e1
  have : some x = some y := ex.symm.trans (e2 xs sq')
  cases this
  exact ⟨P, O, R, by simpa [RepF] using rx⟩
def chars (x : Str) : List D := x.cps.toList.map fun c => D.str ⟨#[c]⟩
theorem yields_str {x : Str} (hz : x.cps.size ≤ sizeLine) : Yields K W false (Its x) (chars x) [] [] := by
  refine ⟨by simpa [chars] using hz, rfl, (fun i h => by cases h), fun P₀ H₀ σ st ρ rs τ ts H g hl R => ⟨fun i d e => ?_, fun i hi => show x.cps.size ≤ i by simpa [chars] using hi⟩⟩
  simp only [chars, List.getElem?_map, Array.getElem?_toList] at e
  obtain ⟨c, e1, rfl⟩ := Option.map_eq_some_iff.mp e
  refine ⟨?_, fun y H' ⟨e2, c', e3, e4⟩ => ?_⟩
  · exact (Array.getElem?_eq_some_iff.mp e1).1
  · subst e2
    rw [e1] at e3; cases e3
    obtain ⟨P, O, R⟩ := R
    exact ⟨P, O, R, by simp [RepF, Rep, e4]⟩
def rangeD (lo : Int) (n : Nat) : List D := (List.range n).map fun (i : Nat) => D.int (lo + (i : Int))
theorem yields_range {lo : Int} {n : Nat} (hz : n ≤ sizeLine) : Yields K W false (Itr lo n) (rangeD lo n) [] [] := by
  refine ⟨by simpa [rangeD] using hz, rfl, (fun i h => by cases h), fun P₀ H₀ σ st ρ rs τ ts H g hl R => ⟨fun i d e => ?_, fun i hi => show n ≤ i by simpa [rangeD] using hi⟩⟩
  have hi : i < n := by
    have := (List.getElem?_eq_some_iff.mp e).1
    simpa [rangeD] using this
  refine ⟨hi, fun y H' ⟨e2, e3⟩ => ?_⟩
  subst e2
  simp only [rangeD, List.getElem?_map, List.getElem?_range hi, Option.map_some, Option.some.injEq] at e
  obtain ⟨P, O, R⟩ := R
  subst e
  exact ⟨P, O, R, by rw [e3]; simp [RepF, Rep]⟩
/-- a new pair, made by what is walked -/
theorem Rel.pair {x y : V} {dx dy : D} {T : Addr} (R : RelB K W P₀ H₀ P O σ st τ ts H g) (hT : H T = none) (hx : Rep K W P dx x) (hy : Rep K W P dy y) :
    ∃ P' O', RelB K W P₀ H₀ P' O' σ st τ ts (upd H T (.tup [x, y])) g ∧ RepF K W P' true (.tup [dx, dy]) (.ref T) := by
  have pn : P T = none := by
    cases e : P T with
    | none => rfl
    | some u => have := R.sub _ _ e; rw [hT] at this; cases this
  have sP : Sub P (upd P T (.tup [x, y])) := fun a u z => by rw [upd_ne (ne_of_none z pn)]; exact z
  refine ⟨_, O, R.laid hT, ?_⟩
  simp only [RepF, if_true, RepA]
  refine ⟨T, _, rfl, SqT.of upd_same, ?_⟩
  simp only [Reps]
  exact ⟨x, _, rfl, Rep.mono sP _ _ hx, y, _, rfl, Rep.mono sP _ _ hy, rfl⟩
def zipD (xs ys : List D) : List D := List.zipWith (fun x y => D.tup [x, y]) xs ys
theorem zipD_get {xs ys : List D} {i : Nat} {d : D} (h : (zipD xs ys)[i]? = some d) : ∃ x y, xs[i]? = some x ∧ ys[i]? = some y ∧ d = .tup [x, y] := by
  simp only [zipD, List.getElem?_zipWith] at h
  cases e1 : xs[i]? with
  | none => simp [e1] at h
  | some x =>
    cases e2 : ys[i]? with
    | none => simp [e1, e2] at h
    | some y => simp [e1, e2] at h; exact ⟨x, y, rfl, rfl, h.symm⟩
theorem yields_zipL {a b : Addr} {ds es : List D} (hz : ds.length ≤ sizeLine) : Yields K W true (Itz K a b) (zipD ds es) [.ref a, .ref b] [.sh (.lst ds), .sh (.lst es)] := by
  refine ⟨by simp [zipD]; omega, rfl, noAt_sh2 _ _, fun P₀ H₀ σ st ρ rs τ ts H g hl R => ?_⟩
  obtain ⟨P, O, R⟩ := R
  obtain ⟨c, c'⟩ := R.cell2 (v := .ref a) (u := .ref b) hl
  simp only [Rep] at c c'
  obtain ⟨a', xs, e, sq, _, rp⟩ := c
  cases e
  obtain ⟨a', ys, e, sq2, _, rp2⟩ := c'
  cases e
  have sq' : SqL K H a xs := SqL.of (R.sub _ _ sq)
  have sq2' : SqL K H b ys := SqL.of (R.sub _ _ sq2)
  refine ⟨fun i d e => ?_, fun i hi => ⟨xs, ys, sq', sq2', by simp [zipD] at hi; rw [rp.length, rp2.length]; omega⟩⟩
  obtain ⟨dx, dy, ex, ey, rfl⟩ := zipD_get e
  obtain ⟨x, ex1, rx⟩ := rp.get ex
  obtain ⟨y, ey1, ry⟩ := rp2.get ey
  refine ⟨⟨xs, ys, x, y, sq', sq2', ex1, ey1⟩, fun z H' ⟨T, x', y', e1, hT, e2, f1, f2⟩ => ?_⟩
  have h1 : some x = some x' := ex1.symm.trans (f1 xs sq')
  have h2 : some y = some y' := ey1.symm.trans (f2 ys sq2')
  cases h1; cases h2
  subst e1 e2
  exact Rel.pair R hT rx ry
theorem yields_zipT {a b : Addr} {ds es : List D} (hz : ds.length ≤ sizeLine) : Yields K W true (RZ.ItzT K a b) (zipD ds es) [.ref a, .ref b] [.sh (.tup ds), .sh (.tup es)] := by
  refine ⟨by simp [zipD]; omega, rfl, noAt_sh2 _ _, fun P₀ H₀ σ st ρ rs τ ts H g hl R => ?_⟩
  obtain ⟨P, O, R⟩ := R
  obtain ⟨c, c'⟩ := R.cell2 (v := .ref a) (u := .ref b) hl
  simp only [Rep] at c c'
  obtain ⟨a', xs, e, sq, _, rp⟩ := c
  cases e
  obtain ⟨a', ys, e, sq2, _, rp2⟩ := c'
  cases e
  have sq' := R.sub.sqT sq.sq
  have sq2' := R.sub.sqT sq2.sq
  refine ⟨fun i d e => ?_, fun i hi => ⟨xs, ys, sq', sq2', by simp [zipD] at hi; rw [rp.length, rp2.length]; omega⟩⟩
  obtain ⟨dx, dy, ex, ey, rfl⟩ := zipD_get e
  obtain ⟨x, ex1, rx⟩ := rp.get ex
  obtain ⟨y, ey1, ry⟩ := rp2.get ey
  refine ⟨⟨xs, ys, x, y, sq', sq2', ex1, ey1⟩, fun z H' ⟨T, x', y', e1, hT, e2, f1, f2⟩ => ?_⟩
  have h1 : some x = some x' := ex1.symm.trans (f1 xs sq')
  have h2 : some y = some y' := ey1.symm.trans (f2 ys sq2')
  cases h1; cases h2
  subst e1 e2
  exact Rel.pair R hT rx ry
def enumD (ds : List D) : List D := ds.mapIdx fun i d => D.tup [.int (i : Nat), d]
end
/-! ### sources -/
def srcSeq (f : M G S) : M G (List D × List S) := fun st g => bnd (mTake f st g) fun d st g => match d with
  | .lst ds => some ((ds, [.sh (.lst ds)]), st, g)
  | .tup ds => some ((ds, [.sh (.tup ds)]), st, g)
  | .str x => if x.cps.size ≤ sizeLine then some ((chars x, []), st, g) else none
  | _ => none
theorem PI.or {X : Cx} {tg e : Expr} {wi wj : TI} (h : PI X tg e wi) (h' : PI X tg e wj) : PI X tg e (fun σ H R => wi σ H R ∨ wj σ H R) :=
  ⟨fun pins s σ H R I q => q.elim (h.run pins s σ H R I) (h'.run pins s σ H R I)⟩
section
variable {C : CF} {Fam : Wd G → Prop} {tg e e2 : Expr} {es : List Expr} {pos p tpos : Pos}
theorem i_seq {f : M G S} (he : DE C Fam e f) : DI C Fam false tg e (srcSeq f) := by
  obtain ⟨ta, pa, ea⟩ := he.ex
  refine ⟨fun σ H R => iList C.K ta σ H R ∨ iTup C.K ta σ H R ∨ iStr ta σ H R, fun j => PI.or (by rw [← C.hK j]; exact pi_list (pa j)) (PI.or (by rw [← C.hK j]; exact pi_tup (pa j)) (pi_str (pa j))), fun W hW P₀ H₀ σ st τ ts H g items cells st' g' R Rl h q => ?_⟩
  obtain ⟨d, st1, g1, e1, h⟩ := bnd_eq h
  obtain ⟨x, st0, e3, e4⟩ := mTake_eq e1
  cases d with
  | lst ds =>
    simp only [Option.some.injEq, Prod.mk.injEq] at h; obtain ⟨⟨rfl, rfl⟩, rfl, rfl⟩ := h
    refine .inl (ea W hW _ _ _ _ _ _ _ _ _ _ _ _ Rl e3 fun v H1 R1 => ?_)
    obtain ⟨P, O, R1⟩ := R1
    obtain ⟨P', O', R1⟩ := R1.takeV e4
    have c : Rep C.K W P' (.lst ds) v := R1.temps.1
    simp only [Rep] at c
    obtain ⟨a, xs, rfl, sq, hz, rp⟩ := c
    exact ⟨a, rfl, ⟨xs, SqL.of (R1.sub _ _ sq)⟩, q _ [.ref a] _ ⟨P', O', R1⟩ (yields_lst hz)⟩
  | tup ds =>
    simp only [Option.some.injEq, Prod.mk.injEq] at h; obtain ⟨⟨rfl, rfl⟩, rfl, rfl⟩ := h
    refine .inr (.inl (ea W hW _ _ _ _ _ _ _ _ _ _ _ _ Rl e3 fun v H1 R1 => ?_))
    obtain ⟨P, O, R1⟩ := R1
    obtain ⟨P', O', R1⟩ := R1.takeV e4
    have c : Rep C.K W P' (.tup ds) v := R1.temps.1
    simp only [Rep] at c
    obtain ⟨a, xs, rfl, sq, hz, rp⟩ := c
    exact ⟨a, rfl, ⟨xs, R1.sub.sqT sq.sq⟩, q _ [.ref a] _ ⟨P', O', R1⟩ (yields_tup hz)⟩
  | str y =>
    simp only at h
    split at h
    · rename_i hz
      simp only [Option.some.injEq, Prod.mk.injEq] at h; obtain ⟨⟨rfl, rfl⟩, rfl, rfl⟩ := h
      refine .inr (.inr (ea W hW _ _ _ _ _ _ _ _ _ _ _ _ Rl e3 fun v H1 R1 => ?_))
      obtain ⟨P, O, R1⟩ := R1
      obtain ⟨P', O', R1⟩ := R1.takeV e4
      have c : Rep C.K W P' (.str y) v := R1.temps.1
      simp only [Rep] at c
      exact ⟨y, c, q _ [] _ ⟨P', O', R1.pop⟩ (yields_str hz)⟩
    · cases h
  | _ => cases h
def srcRange1 (f : M G S) : M G (List D × List S) := fun st g => bnd (mTake f st g) fun d st g => match d with
  | .int j => if -(2 ^ 62) ≤ j ∧ j < 2 ^ 62 ∧ j.toNat ≤ sizeLine then some ((rangeD 0 j.toNat, []), st, g) else none
  | _ => none
theorem i_range1 {f : M G S} (he : DE C Fam e f) (hg : ∀ j, Gl (C.X j) "range" := by intro _; rfl) (hm : C.mg "range" = none) (hs : ∀ j, starEach [e] (C.X j).env = [(false, eval e (C.X j).env)] := by intro _; rfl) :
    DI C Fam false tg (.Call (.Name "range" p) [e] [] pos) (srcRange1 f) := by
  obtain ⟨ta, pa, ea⟩ := he.ex
  refine ⟨_, fun j => pi_range1 (hg j) (by rw [C.hmg j]; exact hm) (pa_cons (pa j) pa_nil (hs j)) (hs j), fun W hW P₀ H₀ σ st τ ts H g items cells st' g' R Rl h q => ?_⟩
  obtain ⟨d, st1, g1, e1, h⟩ := bnd_eq h
  obtain ⟨x, st0, e3, e4⟩ := mTake_eq e1
  cases d with
  | int i =>
    simp only at h
    split at h
    · rename_i hz
      simp only [Option.some.injEq, Prod.mk.injEq] at h; obtain ⟨⟨rfl, rfl⟩, rfl, rfl⟩ := h
      refine ea W hW _ _ _ _ _ _ _ _ _ _ _ _ Rl e3 fun v H1 R1 => ?_
      obtain ⟨P, O, R1⟩ := R1
      obtain ⟨P', O', R1⟩ := R1.takeV e4
      have c : Rep C.K W P' (.int i) v := R1.temps.1
      simp only [Rep] at c
      exact ⟨i, by rw [c], hz.1, hz.2.1, q _ [] _ ⟨P', O', R1.pop⟩ (yields_range hz.2.2)⟩
    · cases h
  | _ => cases h
def srcRange2 (f f2 : M G S) : M G (List D × List S) := fun st g => bnd (mTake f st g) fun d st g => bnd (mTake f2 st g) fun d2 st g => match d, d2 with
  | .int i, .int j => if (-(2 ^ 62) ≤ i ∧ i < 2 ^ 62) ∧ (-(2 ^ 62) ≤ j ∧ j < 2 ^ 62) ∧ (j - i).toNat ≤ sizeLine then some ((rangeD i (j - i).toNat, []), st, g) else none
  | _, _ => none
def srcZip (fa : M G (List D)) : M G (List D × List S) := fun st g => bnd (fa st g) fun ds st g => match ds with
  | [.lst xs, .lst ys] => some ((zipD xs ys, [.sh (.lst xs), .sh (.lst ys)]), st, g)
  | [.tup xs, .tup ys] => some ((zipD xs ys, [.sh (.tup xs), .sh (.tup ys)]), st, g)
  | _ => none
theorem i_zip {elts : List Expr} {kk : Nat} {fa : M G (List D)} (ha : DAs C Fam [e, e2] fa) (hm : C.mg "zip" = none) (hg : ∀ j, Gl (C.X j) "zip" := by intro _; rfl)
    (hs : ∀ j, starEach [e, e2] (C.X j).env = (false, eval e (C.X j).env) :: starEach [e2] (C.X j).env := by intro _; rfl) (hpl : ∀ j, (backTo pos (starEach [e2] (C.X j).env)).any (·.1) = false := by intro _; rfl) :
    DI C Fam true (.Tuple elts kk tpos) (.Call (.Name "zip" p) [e, e2] [] pos) (srcZip fa) := by
  obtain ⟨ta, pa, ea⟩ := ha.ex
  refine ⟨RZ.iZipA C.K ta, fun j => by rw [← C.hK j]; exact RZ.pi_zipA (hg j) (by rw [C.hmg j]; exact hm) (pa j) (hs j) (hpl j), fun W hW P₀ H₀ σ st τ ts H g items cells st' g' R Rl h q => ?_⟩
  obtain ⟨ds, st1, g1, e1, h⟩ := bnd_eq h
  refine ea W hW _ _ _ _ _ _ _ _ _ _ _ _ Rl e1 fun vs H1 P O R1 rp => ?_
  have hl := ha.len _ _ _ _ _ e1
  match ds, hl with
  | [d1, d2], _ =>
    simp only [Reps] at rp
    obtain ⟨v1, _, rfl, r1, v2, _, rfl, r2, rfl⟩ := rp
    cases d1 with
    | lst xs =>
      cases d2 with
      | lst ys =>
        simp only [Option.some.injEq, Prod.mk.injEq] at h; obtain ⟨⟨rfl, rfl⟩, rfl, rfl⟩ := h
        have c := r1
        have c2 := r2
        simp only [Rep] at c c2
        obtain ⟨a, us, rfl, sq, hz, rpa⟩ := c
        obtain ⟨b, ws, rfl, sq2, hz2, rpb⟩ := c2
        exact ⟨a, b, us, ws, rfl, .inl ⟨SqL.of (R1.sub _ _ sq), SqL.of (R1.sub _ _ sq2), q _ [.ref a, .ref b] _ ⟨P, O, (R1.push r2).push r1⟩ (yields_zipL hz)⟩⟩
      | _ => cases h
    | tup xs =>
      cases d2 with
      | tup ys =>
        simp only [Option.some.injEq, Prod.mk.injEq] at h; obtain ⟨⟨rfl, rfl⟩, rfl, rfl⟩ := h
        have c := r1
        have c2 := r2
        simp only [Rep] at c c2
        obtain ⟨a, us, rfl, sq, hz, rpa⟩ := c
        obtain ⟨b, ws, rfl, sq2, hz2, rpb⟩ := c2
        exact ⟨a, b, us, ws, rfl, .inr ⟨R1.sub.sqT sq.sq, R1.sub.sqT sq2.sq, q _ [.ref a, .ref b] _ ⟨P, O, (R1.push r2).push r1⟩ (yields_zipT hz)⟩⟩
      | _ => cases h
    | _ => cases h
def srcEnum (f : M G S) : M G (List D × List S) := fun st g => bnd (mTake f st g) fun d st g => match d with
  | .lst ds => some ((enumD ds, [.sh (.lst ds)]), st, g)
  | _ => none
end
end DL
/-! DX0: tuples are sorted, empty ones among them. -/
namespace DX
open PySem PySem.W PyProof.Rows PySem.SeqAt
def isE : PyData → Bool
  | .tuple [] => true
  | _ => false
/-- what may be sorted -/
def Srt (ds : List PyData) : Prop := Sortable ds ∨ ∀ d ∈ ds, ∃ xs, d = .tuple xs
section
variable {prog : Program} {w : World} {A : Around} {E : Value → Shared → Prop} {s : Shared}
theorem tupLt {l b : Addr} {xs ys : Array Value} {e r : Nat → Bool} {Q : Value → Shared → Prop} (hl : s.heap.IsTuple l xs) (hb : s.heap.IsTuple b ys)
    (he : ∀ j (h1 : j < xs.size) (h2 : j < ys.size), EqAt A.in1 s xs[j] ys[j] (e j)) (hr : ∀ j (h1 : j < xs.size) (h2 : j < ys.size), e j = false → RcLt A.in1 s xs[j] ys[j] (r j))
    (q : Q (.bool (firstLt e r (decide (xs.size < ys.size)) (List.range (min xs.size ys.size)))) s) : wpAny (model prog w) A (call (.builtin "tuple.__lt__") [.ref l, .ref b]) Q E s := by
  obtain ⟨⟨c1, d1, t1, s1⟩, o1, rfl, n1, rfl⟩ := hl
  obtain ⟨⟨c2, d2, t2, s2⟩, o2, rfl, n2, rfl⟩ := hb
  exact call_meets F.slot_tuple_lt ⟨_, o1, rfl⟩ F.entry_tuple_lt (F.args_tuple_lt_2 _ _) (tuple_ltAt l b xs ys n1 n2 d1 d2 s1 s2 e r) ⟨o1, o2, he, hr, q⟩
/-- one tuple against another, told to be of one type -/
theorem oneLtT {xs ys : List PyData} {a b : Value} {as bs : List Addr} {Q : Bool → Shared → Prop} (ra : Reads s.heap a (.tuple xs) as) (rb : Reads s.heap b (.tuple ys) bs) (h : alikeAll xs ys = true)
    (hu : A.units + min (PyData.tuple xs).depth (PyData.tuple ys).depth < cLine) (q : Q (dataLt (.tuple xs) (.tuple ys)) s) : wpAny (model prog w) A (oneLt' true a b) Q E s := by
  cases ra with
  | @tuple l o vs n _ as₁ g1 g2 g3 g4 =>
    cases rb with
    | @tuple l' o' us n' _ bs₁ k1 k2 k3 k4 =>
      have z1 : vs.size = xs.length := by simpa using ReadsAll.length _ _ _ g4
      have z2 : us.size = ys.length := by simpa using ReadsAll.length _ _ _ k4
      rw [dataLt_tuple, ← firstLt_toks xs ys h, ← z1, ← z2] at q
      rw [oneLt'_eq, if_pos rfl]
      refine wpAny_bind (wpAny_cRoomFor (room_here hu) (wpAny_bind (wpAny_callSpecialIfBound?_slot (T := "tuple") ⟨_, g1, g2⟩ F.slot_tuple_lt (tupLt (e := pairEq xs ys) (r := fun j => dataLt (xs.getD j .none) (ys.getD j .none)) ⟨_, g1, g2, _, g3⟩ ⟨_, k1, k2, _, k3⟩ (fun j j1 j2 => ?_) (fun j j1 j2 hj => ?_) (wpAny_truthy_bool q)))))
      · have := eqAt_alikeAll xs ys A.in1 s vs.toList us.toList _ _ g4 k4 h (room_in hu) j (by simpa using j1) (by simpa using j2)
        simpa using this
      · have := rcLt_alikeAll xs ys A.in1 s vs.toList us.toList _ _ g4 k4 h (room_in hu) j (by simpa using j1) (by simpa using j2) hj
        simpa using this
/-- the first things of tuples -/
theorem headsOf {h : Heap} : ∀ {vs : List Value} {ds : List PyData}, EachIs (fun v d => ∃ as, Reads h v d as) vs ds → (∀ d ∈ ds, ∃ xs, d = .tuple xs) → ∃ fs : List (Option Value), fs.map Option.isSome = ds.map (fun d => !isE d) ∧
    ∀ {M : Model} {A : Around} {E : Value → Shared → Prop} {s : Shared} {Q : List (Option Value) → Shared → Prop}, s.heap = h → Q fs s → wpAny M A (vs.mapM firstOfTuple') Q E s
  | _, _, .nil, _ => ⟨[], rfl, fun _ q => by rw [List.mapM_nil]; exact wpAny_pure q⟩
  | _, _, .cons (a := v) (b := d) ⟨as, r⟩ t, ht => by
    obtain ⟨fs, e, run⟩ := headsOf t fun d hd => ht d (List.mem_cons_of_mem _ hd)
    obtain ⟨xs, rfl⟩ := ht d List.mem_cons_self
    cases r with
    | @tuple a o us n _ _ g1 g2 g3 g4 =>
      refine ⟨us[0]? :: fs, ?_, fun {M A E s Q} hs q => ?_⟩
      · rw [List.map_cons, List.map_cons, e]
        congr 1
        have z : us.size = xs.length := by simpa using ReadsAll.length _ _ _ g4
        cases xs with
        | nil => simp at z; simp [z, isE]
        | cons x xs => simp at z; simp [show 0 < us.size by omega, isE]
      · subst hs
        rw [List.mapM_cons, kas_first_eq]
        refine wpAny_bind (wpAny_bind (Looks.here (show Looks M s.heap (typeOf (.ref a)) o.cls from (Looks.ld g1).andThen .now) ?_))
        rw [g2, if_neg (by first | decide | simp)]
        refine wpAny_bind (listItems_at g1 g3 (wpAny_pure ?_))
        exact wpAny_bind (run (Q := fun b s' => wpAny M A (pure (us[0]? :: b)) Q E s') rfl (wpAny_pure q))
theorem kindT {vs : List Value} {ds : List PyData} {d₀ : PyData} {Q : SortKind → Shared → Prop} (e : EachIs (fun v d => ∃ as, Reads s.heap v d as) vs (d₀ :: ds)) (ht : ∀ d ∈ d₀ :: ds, ∃ xs, d = .tuple xs) (h0 : .tuple [] ∈ d₀ :: ds)
    (q : Q (if isE d₀ = true then oneType' else general') s) : wpAny (model prog w) A (keyKind' vs.toArray) Q E s := by
  obtain ⟨fs, ef, run⟩ := headsOf e ht
  rw [keyKind'_eq, List.mapM_toArray, map_eq_pure_bind]
  refine wpAny_bind (wpAny_bind (run rfl (wpAny_pure ?_)))
  have no : ¬ (fs.toArray.all fun x => x.isSome) = true := fun z => by
    have z : fs.all Option.isSome = true := by simpa using z
    obtain ⟨i, hi⟩ := List.getElem?_of_mem h0
    have a : (fs.map Option.isSome)[i]? = some false := by rw [ef, List.getElem?_map, hi]; rfl
    rw [List.getElem?_map] at a
    obtain ⟨f, hf, e2⟩ := Option.map_eq_some_iff.mp a
    have := List.all_eq_true.mp z f (List.mem_of_getElem? hf)
    rw [e2] at this; cases this
  rw [if_neg no]
  cases fs with
  | nil => cases ef
  | cons f fs =>
    rw [List.map_cons, List.map_cons] at ef
    injection ef with e1 e2
    by_cases c : isE d₀ = true
    · rw [if_pos c] at q
      have f0 : f = none := by cases f with
        | none => rfl
        | some _ => simp [c] at e1
      subst f0
      rw [if_neg (by simp)]
      rw [oneTypeOnly'_eq, List.mapM_toArray, map_eq_pure_bind]
      refine wpAny_bind (wpAny_bind (wpAny_bind (kas_mapM (r := Value.type "tuple") _ (fun v hv Q' hq => ?_) (wpAny_pure ?_))))
      · obtain ⟨d, hd, as, r⟩ := e.left v hv
        obtain ⟨xs, rfl⟩ := ht d hd
        exact (looks_reads r).here hq
      · cases vs with
        | nil => cases e
        | cons v vs =>
          have all : ((List.map (fun _ => Value.type "tuple") (v :: vs)).toArray.all fun x => x == Value.type "tuple") = true := by
            simp only [List.all_toArray, List.all_map, List.all_eq_true]
            intro _ _
            show (Value.type "tuple" == Value.type "tuple") = true
            decide
          have hd0 : (List.map (fun _ => Value.type "tuple") (v :: vs)).toArray[0]? = some (Value.type "tuple") := by simp
          rw [hd0]
          refine wpAny_pure ?_
          simp only [all, if_true]
          exact wpAny_pure q
    · rw [if_neg c] at q
      have f0 : f.isSome = true := by simp [c] at e1; exact e1
      rw [if_pos (by simpa using f0)]
      exact wpAny_pure q
theorem sorts {vs : List Value} {ds : List PyData} (e : EachIs (fun v d => ∃ as, Reads s.heap v d as) vs ds) (hal : AllAlike ds) (hk : Srt ds) (hu : ∀ d, d ∈ ds → A.units + d.depth < cLine) : SortsAt prog w A s (dataKind s.heap ds) vs := by
  rcases hk with hk | ht
  · exact SortsAt.data e hal hk hu
  by_cases h0 : .tuple [] ∈ ds
  · refine ⟨fun v hv => ?_, ?_⟩
    · obtain ⟨d, hd, as, r⟩ := e.left v hv
      exact ⟨_, dataKind_some hal hd r⟩
    · cases ds with
      | nil => cases h0
      | cons d₀ ds =>
        refine ⟨if isE d₀ = true then oneType' else general', ?_, fun _ E Q q => kindT e ht h0 q⟩
        intro E x y a b Q ha hb hq
        obtain ⟨d, as, hd, ra, rfl⟩ := dataKind_inv ha
        obtain ⟨d', as', hd', rb, rfl⟩ := dataKind_inv hb
        have hdd := hal d hd d' hd'
        have room : A.units + min d.depth d'.depth < cLine := Nat.lt_of_le_of_lt (Nat.add_le_add_left (Nat.min_le_left _ _) _) (hu d hd)
        obtain ⟨xs, rfl⟩ := ht d hd
        obtain ⟨ys, rfl⟩ := ht d' hd'
        split
        · rw [keyLt'_oneType]
          exact oneLtT ra rb (by simpa [alike] using hdd) room hq
        · show wpAny (model prog w) A (oneLt' false x y) Q E s
          exact oneLt_alike (fun z => by cases z) ra rb hdd (fun z => by cases z) room hq
  · refine SortsAt.data e hal (.inl fun d hd => ?_) hu
    obtain ⟨xs, rfl⟩ := ht d hd
    cases xs with
    | nil => exact absurd hd h0
    | cons x r => exact ⟨x, r, rfl⟩
theorem sort_srt {β : Type} {vs : List Value} {bs : List β} {enc : β → PyData} {R : Value → β → Prop} {a : Addr} {n : Nat} {Q : Value → Shared → Prop} (ho : s.heap.get? a = some (seqObj "list" vs.toArray n)) (e : EachIs R vs bs)
    (er : EachIs (fun v b => ∃ as, Reads s.heap v (enc b) as ∧ a ∉ as) vs bs) (hal : AllAlike (bs.map enc)) (hk : Srt (bs.map enc)) (hL : bs.length ≤ sizeLine) (hu : ∀ b, b ∈ bs → A.units + 1 + (enc b).depth < cLine)
    (h : ∀ out, out.length = bs.length → EachIs R out (bs.mergeSort (dataLe false enc)) → Q .none { s with heap := sortedHeap s.heap a vs (List.toArray out) }) : wpAny (model prog w) A (call (.builtin "list.sort") [.ref a]) Q E s := by
  have er2 : EachIs (fun v b => ∃ as, Reads (sortingHeap s.heap a vs) v (enc b) as) vs bs := each_keepBut (h' := sortingHeap s.heap a vs) (fun _ _ hb q => sortingHeap_old hb q) (fun o q => by rw [ho] at q; cases q; rfl) hal er
  refine wpAny_call_entry slot_list_sort ⟨_, ho, rfl⟩ entry_list_sort (list_sort_vals (κ := dataKind (sortingHeap s.heap a vs) (bs.map enc)) ho (sorts (s := { s with heap := sortingHeap s.heap a vs }) (each_map (R := fun v d => ∃ as, Reads (sortingHeap s.heap a vs) v d as) enc er2) hal hk (fun d hd => by
    obtain ⟨b, hb, rfl⟩ := List.mem_map.mp hd
    exact hu b hb)) (by rw [e.length]; exact hL) ⟨.none, rfl, h _ (by rw [sortVals_length false rfl]; exact e.length) (sortVals_data false e er2 hal)⟩) (args_list_sort _)
end
end DX
/-! DX: sets of keys, made of a list or a tuple. -/
namespace DX
open PySem PySem.Spec PyProof.Rows L2
/-- what is to be known of a set that grows at S, its things told by values of κ -/
structure Th (P : Program) (w : World) (κ : Type) (S : Addr) (h0 : Heap) where
  I : Heap → List (Value × κ) → Prop
  Ky : Value → κ → Prop
  keep : ∀ h h' L, I h L → (∀ o, h.get? S = some o → h'.get? S = some o) → (∀ b o, h0.get? b = some o → h'.get? b = some o) → I h' L
  add : ∀ (A : Around) (E : Value → Shared → Prop) (s : Shared) (v : Value) (k : κ) (L : List (Value × κ)) (Q : Bool → Shared → Prop), A.units + 20 < cLine → I s.heap L → Ky v k → L.length + 1 < 64 →
    (∀ b o, h0.get? b = some o → s.heap.get? b = some o) →
    (∀ b h' tk L', s.toks ≤ tk → Heap.SameBut S s.heap h' → I h' L' → (k ∈ L.map (·.2) → L' = L) → (k ∉ L.map (·.2) → L'.Perm ((v, k) :: L)) → Q b { s with heap := h', toks := tk }) →
    wpAny (model P w) A (setAdd S v) Q E s
/-- what the first i of ks have brought in -/
structure Has {κ : Type} (ks : List (Value × κ)) (i : Nat) (L : List (Value × κ)) : Prop where
  sub : ∀ p ∈ L, p ∈ ks.take i
  all : ∀ p ∈ ks.take i, p.2 ∈ L.map (·.2)
  nd : (L.map (·.2)).Nodup
  len : L.length ≤ i
theorem Has.start {κ : Type} (ks : List (Value × κ)) : Has ks 0 [] := ⟨by simp, by simp, by simp, Nat.le_refl _⟩
theorem Has.next {κ : Type} {ks L L' : List (Value × κ)} {i : Nat} {v : Value} {k : κ} (g : Has ks i L) (h : ks[i]? = some (v, k)) (h1 : k ∈ L.map (·.2) → L' = L) (h2 : k ∉ L.map (·.2) → L'.Perm ((v, k) :: L)) : Has ks (i + 1) L' := by
  have tk : ks.take (i + 1) = ks.take i ++ [(v, k)] := by
    have := List.take_succ (l := ks) (i := i)
    rw [this, h]; rfl
  by_cases c : k ∈ L.map (·.2)
  · rw [h1 c]
    exact ⟨fun p hp => by rw [tk]; exact List.mem_append_left _ (g.sub p hp), fun p hp => by
      rw [tk] at hp
      rcases List.mem_append.mp hp with z | z
      · exact g.all p z
      · simp only [List.mem_singleton] at z; rw [z]; exact c, g.nd, Nat.le_succ_of_le g.len⟩
  · have pm := h2 c
    refine ⟨fun p hp => ?_, fun p hp => ?_, ?_, by rw [pm.length_eq]; have := g.len; simp; omega⟩
    · rw [tk]
      rcases List.mem_cons.mp (pm.mem_iff.mp hp) with e | z
      · rw [e]; simp
      · exact List.mem_append_left _ (g.sub p z)
    · rw [(pm.map (·.2)).mem_iff]
      rw [tk] at hp
      rcases List.mem_append.mp hp with z | z
      · exact List.mem_cons_of_mem _ (g.all p z)
      · simp only [List.mem_singleton] at z; rw [z]; simp
    · exact (pm.map (·.2)).nodup_iff.mpr (List.nodup_cons.mpr ⟨c, g.nd⟩)
section
variable {P : Program} {w : World} {A : Around} {E : Value → Shared → Prop} {s : Shared} {κ : Type}
theorem update_th {I : Addr} {fp wr : List Addr} {Gs : Array GenState → Array GenState → Prop} {n : Nat} {Pv : Nat → Value → Prop} {St : Nat → Shared → Prop} {R : Result → Shared → Prop}
    (Wk : WalksS P w A.in1 I fp wr Gs n Pv St) (S : Addr) (hSf : S ∉ fp) (h0 : Heap) (T : Th P w κ S h0) (ks : List (Value × κ)) (hn : n = ks.length) (hfew : ks.length < 64) (hval : ∀ i v, Pv i v → ∃ k, ks[i]? = some (v, k))
    (hk : ∀ p ∈ ks, T.Ky p.1 p.2) (hS0 : h0.get? S = none) (hw0 : ∀ b ∈ wr, h0.get? b = none) (hu : A.in1.units + 20 < cLine) :
    ∀ (m i : Nat) (s : Shared), n - i = m → i ≤ n → St i s → (∀ b o, h0.get? b = some o → s.heap.get? b = some o) → (∃ L, T.I s.heap L ∧ Has ks i L) →
      (∀ s' L, Moved (S :: wr) Gs s s' → T.I s'.heap L → Has ks n L → (∀ b o, h0.get? b = some o → s'.heap.get? b = some o) → R (.ok (.ret .none)) s') →
      codeAny (model P w) A (.builtin "set.update.loop" ⟨[.ref S, .ref I], []⟩) R s := by
  have hSw : S ∉ wr := fun h => hSf (Wk.sub _ h)
  have up : ∀ b ∈ wr, b ∈ S :: wr := fun b hb => List.mem_cons_of_mem _ hb
  have kp : ∀ {s s' : Shared}, Moved wr Gs s s' → (∀ b o, h0.get? b = some o → s.heap.get? b = some o) → ∀ b o, h0.get? b = some o → s'.heap.get? b = some o := fun hm hkp b o e => hm.heap b o (fun hb => by rw [hw0 b hb] at e; cases e) (hkp b o e)
  intro m
  induction m with
  | zero =>
    intro i s hm0 hi hst hkp ⟨L, hS, g⟩ hR
    obtain rfl : i = n := by omega
    refine codeAny_builtin F.entry_set_update_loop ?_
    rw [Around.under_plainId F.plain_set_update_loop _]
    refine wpAny_bind (Wk.done s _ _ hst fun s' hm => wpAny_pure (hR s' L (hm.mono up) (T.keep _ _ _ hS (fun o e => hm.heap S o hSw e) (kp hm hkp)) g (kp hm hkp)))
  | succ m ih =>
    intro i s hm0 hi hst hkp ⟨L, hS, g⟩ hR
    have hlt : i < n := by omega
    refine codeAny_builtin F.entry_set_update_loop ?_
    rw [Around.under_plainId F.plain_set_update_loop _]
    refine wpAny_bind (Wk.item i s _ _ hlt hst fun v s' hP hst' hm => ?_)
    obtain ⟨k, hp⟩ := hval i v hP
    have hS' := T.keep _ s'.heap _ hS (fun o e => hm.heap S o hSw e) (kp hm hkp)
    show wpAny _ A.in1 (holding [v] (setAdd S v) >>= _) _ _ s'
    refine wpAny_bind (wpAny_holding (T.add A.in1 _ s' v k L _ hu hS' (hk (v, k) (List.mem_of_getElem? hp)) (by have := g.len; omega) (kp hm hkp) fun b h' tk L' ht hsb hI c1 c2 => ?_))
    have hkp2 : ∀ b o, h0.get? b = some o → h'.get? b = some o := fun b o e => (hsb.2 b (fun z => by rw [z, hS0] at e; cases e)).trans (kp hm hkp b o e)
    refine wpAny_pure ⟨plainId_quiet F.plain_set_update_loop _, ih (i + 1) _ (by omega) hlt (Wk.frame _ s' _ _ hst' ht fun b hb o e => by rw [hsb.2 b (fun z : b = S => hSf (z ▸ hb))]; exact e) hkp2 ⟨L', hI, g.next hp c1 c2⟩ fun s'' L2 hm2 hS2 g2 hkp3 => ?_⟩
    exact hR s'' L2 (Moved.trans Wk.gtrans ((hm.mono up).then_heap ht fun b o hb e => by rw [hsb.2 b (fun z : b = S => hb (z ▸ List.mem_cons_self))]; exact e) hm2) hS2 g2 hkp3
abbrev new0 (w : World) : Obj := { cls := .type "set", dict := none, data := .set #[] 0 (.fresh 0 0 (!w.params.followText "set-order")) }
end
end DX
namespace DX
open PySem PySem.Spec PyProof.Rows L2
section
variable {P : Program} {w : World} {A : Around} {E : Value → Shared → Prop} {s : Shared} {κ : Type}
theorem none_ge {h : Heap} {b : Addr} (hb : h.objs.size ≤ b) : h.get? b = none := by
  cases q : h.get? b with
  | none => rfl
  | some o => exact absurd (Nat.lt_of_lt_of_le (Heap.lt_size q) hb) (Nat.lt_irrefl _)
/-- what is wanted of the set's first state -/
def Fresh (T : Th P w κ S h0) : Prop := ∀ h : Heap, h.get? S = some (new0 w) → T.I h []
theorem vals_at {items : Array Value} {ks : List (Value × κ)} (hit : items.toList = ks.map (·.1)) : ∀ (i : Nat) (v : Value), items[i]? = some v → ∃ k, ks[i]? = some (v, k) := fun i v hv => by
  have q : items.toList[i]? = some v := (Array.getElem?_toList ..).trans hv
  rw [hit, List.getElem?_map] at q
  obtain ⟨p, e1, e2⟩ := Option.map_eq_some_iff.mp q
  exact ⟨p.2, by rw [e1, ← e2]⟩
theorem upd_list {l S : Addr} {items : Array Value} (ks : List (Value × κ)) {h0 : Heap} (T : Th P w κ S h0) {Q : Unit → Shared → Prop} (hh : A.handled = none) (hl : s.heap.IsList l items) (hit : items.toList = ks.map (·.1))
    (hk : ∀ p ∈ ks, T.Ky p.1 p.2) (hfew : ks.length < 64) (hu : A.units + 30 < cLine) (hS : T.I s.heap []) (hSl : S ≠ l) (hSs : S < s.heap.objs.size) (hS0 : h0.get? S = none) (hz0 : h0.objs.size ≤ s.heap.objs.size) (hkp : ∀ b o, h0.get? b = some o → s.heap.get? b = some o)
    (h : ∀ (h' : Heap) (tk : Nat) L, T.I h' L → Has ks ks.length L → (∀ b o, h0.get? b = some o → h'.get? b = some o) → Q () { s with heap := h', toks := tk }) :
    wpAny (model P w) A (Builtin.Frozenset.updateFrom "set.__init__" S (.ref l)) Q E s := by
  have hisz : items.size = ks.length := by have q := congrArg List.length hit; simpa using q
  obtain ⟨⟨ocls, odict, odata, oslots⟩, hol, hcl, nl, hdl⟩ := id hl
  simp only at hcl hdl
  subst hcl; subst hdl
  have hsls := F.sub_list_set; have hslf := F.sub_list_frozenset
  have hne : (Value.type "list" == Value.type "dict") = false := by decide
  have hlS : l < s.heap.objs.size := Heap.lt_size hol
  unfold Builtin.Frozenset.updateFrom
  generalize hPI : pyIter = PI
  wp_walk
  subst hPI
  refine wpAny_pyIter_list hl (wpAny_bind (wpAny_runValue ?_))
  have hSf : S ∉ [s.heap.objs.size, l] := by
    intro z
    rcases List.mem_cons.mp z with z | z
    · exact absurd z (Nat.ne_of_lt hSs)
    · exact hSl (List.mem_singleton.mp z)
  refine update_th ((Walks.list (by simp [hh]) _ l (Nat.ne_of_lt hlS) items).toS) S hSf h0 T ks hisz hfew (vals_at hit) hk hS0 (fun b hb => none_ge (by rw [List.mem_singleton.mp hb]; exact hz0)) (by show A.units + 1 + 20 < cLine; omega) (items.size - 0) 0 _ (by omega) (Nat.zero_le _)
    ⟨⟨_, Heap.get?_push_size _ rfl, rfl, rfl⟩, hl.push _⟩ (fun b o e => Heap.get?_push_of_some _ (hkp b o e)) ⟨[], T.keep _ _ _ hS (fun o e => Heap.get?_push_of_some _ e) (fun b o e => Heap.get?_push_of_some _ (hkp b o e)), Has.start ks⟩ ?hR
  case hR =>
    intro s' L hm hS' g' hkp
    obtain ⟨h', g2, d', tk', os'⟩ := s'
    obtain rfl : g2 = s.gens := hm.gens
    obtain rfl : d' = s.drawn := hm.drawn
    obtain rfl : os' = s.os := hm.os
    rw [hisz] at g'
    exact wpAny_pure (h h' tk' L hS' g' hkp)
theorem upd_tuple {l S : Addr} {items : Array Value} (ks : List (Value × κ)) {h0 : Heap} (T : Th P w κ S h0) {Q : Unit → Shared → Prop} (hh : A.handled = none) (hl : s.heap.IsTuple l items) (hit : items.toList = ks.map (·.1))
    (hk : ∀ p ∈ ks, T.Ky p.1 p.2) (hfew : ks.length < 64) (hu : A.units + 30 < cLine) (hS : T.I s.heap []) (hSl : S ≠ l) (hSs : S < s.heap.objs.size) (hS0 : h0.get? S = none) (hz0 : h0.objs.size ≤ s.heap.objs.size) (hkp : ∀ b o, h0.get? b = some o → s.heap.get? b = some o)
    (h : ∀ (h' : Heap) (tk : Nat) L, T.I h' L → Has ks ks.length L → (∀ b o, h0.get? b = some o → h'.get? b = some o) → Q () { s with heap := h', toks := tk }) :
    wpAny (model P w) A (Builtin.Frozenset.updateFrom "set.__init__" S (.ref l)) Q E s := by
  have hisz : items.size = ks.length := by have q := congrArg List.length hit; simpa using q
  obtain ⟨⟨ocls, odict, odata, oslots⟩, hol, hcl, nl, hdl⟩ := id hl
  simp only at hcl hdl
  subst hcl; subst hdl
  have hsls := F.sub_tuple_set; have hslf := F.sub_tuple_frozenset
  have hne : (Value.type "tuple" == Value.type "dict") = false := by decide
  have hlS : l < s.heap.objs.size := Heap.lt_size hol
  unfold Builtin.Frozenset.updateFrom
  generalize hPI : pyIter = PI
  wp_walk
  subst hPI
  refine wpAny_pyIter_tuple hl (wpAny_bind (wpAny_runValue ?_))
  have hSf : S ∉ [s.heap.objs.size, l] := by
    intro z
    rcases List.mem_cons.mp z with z | z
    · exact absurd z (Nat.ne_of_lt hSs)
    · exact hSl (List.mem_singleton.mp z)
  refine update_th ((Walks.tuple (by simp [hh]) _ l (Nat.ne_of_lt hlS) items).toS) S hSf h0 T ks hisz hfew (vals_at hit) hk hS0 (fun b hb => none_ge (by rw [List.mem_singleton.mp hb]; exact hz0)) (by show A.units + 1 + 20 < cLine; omega) (items.size - 0) 0 _ (by omega) (Nat.zero_le _)
    ⟨⟨_, Heap.get?_push_size _ rfl, rfl, rfl⟩, ⟨_, Heap.get?_push_of_some _ hol, rfl, nl, rfl⟩⟩ (fun b o e => Heap.get?_push_of_some _ (hkp b o e)) ⟨[], T.keep _ _ _ hS (fun o e => Heap.get?_push_of_some _ e) (fun b o e => Heap.get?_push_of_some _ (hkp b o e)), Has.start ks⟩ ?hR
  case hR =>
    intro s' L hm hS' g' hkp
    obtain ⟨h', g2, d', tk', os'⟩ := s'
    obtain rfl : g2 = s.gens := hm.gens
    obtain rfl : d' = s.drawn := hm.drawn
    obtain rfl : os' = s.os := hm.os
    rw [hisz] at g'
    exact wpAny_pure (h h' tk' L hS' g' hkp)
/-- set(x), by what is put in -/
theorem set_call {v : Value} (B : Heap → Nat → Prop) {Q : Value → Shared → Prop}
    (hU : ∀ (A' : Around) (s1 : Shared) (E' : Value → Shared → Prop) (Q' : Unit → Shared → Prop), A'.handled = A.handled → A'.units ≤ A.units + 4 → s1 = { s with heap := s.heap.push (new0 w) } → (∀ h' tk, B h' tk → Q' () { s with heap := h', toks := tk }) →
      wpAny (model P w) A' (Builtin.Frozenset.updateFrom "set.__init__" s.heap.objs.size v) Q' E' s1)
    (h : ∀ h' tk, B h' tk → Q (.ref s.heap.objs.size) { s with heap := h', toks := tk }) : wpAny (model P w) A (call (.type "set") [v]) Q E s := by
  obtain ⟨c, tl, hmro⟩ := F.called_set.mro
  have hmade := F.called_set.made; have hsub := F.called_set.sub
  have h1 := F.called_set.notType; have h2 := F.called_set.canCreate; have hct := F.typeCall_set_1 v
  refine wpAny_call (codeAny_of_tree (?_ : wpAny _ _ (callAny (.type "set") _) _ _ _))
  refine wpAny_pure ⟨Code.quiet_builtin _ (by decide +kernel), codeAny_builtin F.entry_type_call ?_⟩
  rw [Around.under_plain (weight_type_call_type "set" [v] []) rfl]
  repeat (any_goals (first | assumption | wp_step))
  refine codeAny_mono (code_set_led1 v (E := E) (Q₁ := fun obj s₁ => obj = .ref s.heap.objs.size ∧ s₁ = { s with heap := s.heap.push (new0 w) }) ⟨rfl, rfl⟩) fun r s₁ hr => ?_
  cases r with
  | error e => exact hr
  | ok fl =>
    cases fl with
    | ret obj =>
      obtain ⟨rfl, rfl⟩ := hr
      have hS : (s.heap.push (new0 w)).get? s.heap.objs.size = some (new0 w) := Heap.get?_push_size _ rfl
      have hT : Shared.TypeIs { s with heap := s.heap.push (new0 w) } (.ref s.heap.objs.size) "set" := ⟨_, hS, rfl⟩
      have hli := F.called_set.init.lookup; have hbi := F.called_set.init.bind (.ref s.heap.objs.size)
      repeat (any_goals (first | assumption | wp_step))
      refine codeAny_mono (codeAny_call_builtin (R := wants (fun r s₂ => r = .none ∧ ∃ h' tk, s₂ = { s with heap := h', toks := tk } ∧ B h' tk) E) F.called_set.init.plain F.entry_set_init (check_set_init_1 hT ?_)) fun r₂ s₂ hr₂ => ?_
      · unfold Builtin.«set.__init__» noKeywords
        generalize hUP : Builtin.Frozenset.updateFrom = UP
        wp_walk
        subst hUP
        refine hU _ _ _ _ ?_ ?_ rfl fun h' tk hB => wpAny_pure ⟨rfl, h', tk, rfl, hB⟩
        · rfl
        · show A.units + 1 + 1 ≤ _; omega
      · cases r₂ with
        | error e => exact hr₂
        | ok fl₂ =>
          cases fl₂ with
          | ret r =>
            obtain ⟨rfl, h', tk, rfl, hB⟩ := hr₂
            repeat (any_goals (first | assumption | wp_step))
            exact h _ _ hB
          | _ => exact hr₂.elim
    | _ => exact hr.elim
end
end DX
namespace DX
open PySem PySem.Spec PyProof.Rows L2
/-- the state of a set, whatever its things are -/
structure Sat (w : World) (h : Heap) (S : Addr) (es : Array (Int × Value)) (ep : Nat) (t : SetTable) : Prop where
  ob : ∃ o, h.get? S = some o ∧ o.ExactSet ∧ o.data = .set es ep t
  few : es.size < scanBound
  fits : t.fits es.size = true
  ris : Ris t.place.toList
  led : w.params.followText "set-order" = true ∨ t.led = true
theorem Sat.at {w : World} {h h' : Heap} {S : Addr} {es : Array (Int × Value)} {ep : Nat} {t : SetTable} (x : Sat w h S es ep t) (k : ∀ o, h.get? S = some o → h'.get? S = some o) : Sat w h' S es ep t :=
  let ⟨o, ho, r⟩ := x.ob
  ⟨⟨o, k o ho, r⟩, x.few, x.fits, x.ris, x.led⟩
theorem sat_new {w : World} {h : Heap} {S : Addr} (ho : h.get? S = some (new0 w)) : Sat w h S #[] 0 (.fresh 0 0 (!w.params.followText "set-order")) :=
  ⟨⟨_, ho, ⟨rfl, rfl, rfl⟩, rfl⟩, (by decide), rfl, List.Pairwise.nil, by
    cases e : w.params.followText "set-order"
    · right; show (!false) = true; rfl
    · left; rfl⟩
section
variable {P : Program} {w : World} {A : Around} {E : Value → Shared → Prop} {s : Shared}
/-- a set of ints and texts -/
def KI (w : World) (S : Addr) (h : Heap) (L : List (Value × Key)) : Prop :=
  ∃ es ep t, Sat w h S es ep t ∧ es.toList = L.map (fun p => (keyH w p.2, p.1)) ∧ ∀ p ∈ L, keyIs p.2 p.1 = true
theorem elems_of (P : Program) (w : World) {L : List (Value × Key)} (hk : ∀ p ∈ L, keyIs p.2 p.1 = true) : ElemsOf (mixKind P w) (L.map fun p => (keyH w p.2, p.1)) := fun e he => by
  obtain ⟨p, hp, rfl⟩ := List.mem_map.mp he
  refine ⟨⟨p.2, hk p hp, rfl⟩, ?_⟩
  rcases keyIs_shape (hk p hp) with ⟨i, t, _, e⟩ | ⟨x, t, _, e⟩ <;> rw [e] <;> rfl
theorem scan_of {k : Key} {v : Value} (h : keyIs k v = true) : v.scannable = true := by
  rcases keyIs_shape h with ⟨i, t, _, e⟩ | ⟨x, t, _, e⟩ <;> rw [e] <;> rfl
theorem find_mem (P : Program) (w : World) {L : List (Value × Key)} {k : Key} (hk : ∀ p ∈ L, keyIs p.2 p.1 = true) (e : Int × Value) (he : e ∈ L.map fun p => (keyH w p.2, p.1)) (q : keyIs k e.2 = true) : k ∈ L.map (·.2) := by
  obtain ⟨p, hp, rfl⟩ := List.mem_map.mp he
  have := (mixKind P w).inj p.1 k p.2 q (hk p hp)
  exact List.mem_map.mpr ⟨p, hp, this.symm⟩
theorem tail_th {g : Bool → Sem Unit} (hg : ∀ (b : Bool) (s₁ : Shared) (Q' : Unit → Shared → Prop), Q' () s₁ → wpAny (model P w) A (g b) Q' E s₁)
    {S : Addr} {o : Obj} {es : Array (Int × Value)} {ep : Nat} {t : SetTable} (ho : s.heap.get? S = some o) (hex : o.ExactSet) (hd : o.data = .set es ep t)
    {es1 : Array (Int × Value)} {t2 : SetTable} {L1 : List (Value × Key)} (e1 : es1.toList = L1.map fun p => (keyH w p.2, p.1)) (k1 : ∀ p ∈ L1, keyIs p.2 p.1 = true)
    (hb1 : es1.size < scanBound) (hf2 : t2.fits es1.size = true) (hr : Ris t2.place.toList) (hl : w.params.followText "set-order" = true ∨ t2.led = true) {wasDummy : Bool} {R : Option Bool → Shared → Prop}
    (hR : ∀ h' L', Heap.SameBut S s.heap h' → KI w S h' L' → L'.Perm L1 → R (some true) { s with heap := h' }) :
    wpAny (model P w) A (do
        storeSet S es1 t2
        if (!wasDummy && t2.tooFull) = true then do
            g (relayAll t2 es1 (SetTable.grown es1.size)).2.2
            storeSet S (relayAll t2 es1 (SetTable.grown es1.size)).1 (relayAll t2 es1 (SetTable.grown es1.size)).2.1
            pure (some true)
          else pure (some true)) R E s := by
  have ho1 := store_at (es' := es1) (t' := t2) ho hd
  have sb1 := Heap.SameBut.update s.heap S (Obj.putSet es1 t2)
  refine wpAny_bind (wpAny_storeSet_of ho hd ?_ (fits_of_scanBound hb1))
  by_cases hc : (!wasDummy && t2.tooFull) = true
  · rw [if_pos hc]
    have pm := relayAll_perm t2 es1 (SetTable.grown es1.size)
    have hf3 := relayAll_fits t2 es1 (SetTable.grown es1.size)
    have hr3 := relayAll_ris t2 es1 (SetTable.grown es1.size)
    have hl3 := relayAll_led t2 es1 (SetTable.grown es1.size)
    generalize relayAll t2 es1 (SetTable.grown es1.size) = Z at pm hf3 hr3 hl3 ⊢
    obtain ⟨es2, t3, gave⟩ := Z
    dsimp only at pm hf3 hr3 hl3 ⊢
    have hb2 : es2.size < scanBound := by rw [← Array.length_toList, pm.length_eq, Array.length_toList]; exact hb1
    obtain ⟨L2, pL, eL⟩ := perm_lift (fun p : Value × Key => (keyH w p.2, p.1)) pm L1 e1.symm
    refine wpAny_bind (hg _ _ _ (wpAny_bind (wpAny_storeSet_of ho1 rfl ?_ (fits_of_scanBound hb2))))
    have ho2 := store_at (es' := es2) (t' := t3) ho1 rfl
    refine wpAny_pure (hR _ L2 (sb1.trans (Heap.SameBut.update _ S _)) ⟨es2, _, t3, ⟨⟨_, ho2, hex, rfl⟩, hb2, hf3, hr3, hl.imp id fun z => by rw [hl3]; exact z⟩, eL.symm, fun p hp => k1 p (pL.mem_iff.mp hp)⟩ pL)
  · rw [if_neg hc]
    exact wpAny_pure (hR _ L1 sb1 ⟨es1, _, t2, ⟨⟨_, ho1, hex, rfl⟩, hb1, hf2, hr, hl⟩, e1, k1⟩ (List.Perm.refl _))
theorem add_key {S : Addr} {L : List (Value × Key)} {k : Key} {v : Value} {Q : Bool → Shared → Prop} (R : KI w S s.heap L) (hv : keyIs k v = true) (room : L.length + 1 < 64)
    (hQ : ∀ b h' L', Heap.SameBut S s.heap h' → KI w S h' L' → (k ∈ L.map (·.2) → L' = L) → (k ∉ L.map (·.2) → L'.Perm ((v, k) :: L)) → Q b { s with heap := h' }) :
    wpAny (model P w) A (setAddHashed S v (keyH w k)) Q E s := by
  obtain ⟨es, ep, t, ⟨⟨o, ho, hex, hd⟩, hb, hf, hr, hl⟩, hes, hks⟩ := R
  have hel : ElemsOf (mixKind P w) es.toList := by rw [hes]; exact elems_of P w hks
  have hlen : es.size = L.length := by rw [← Array.length_toList, hes, List.length_map]
  have hsc := scan_of hv
  unfold setAddHashed setAddHashedIn
  refine wpAny_holding (wpAny_bind (wpAny_setState_of ho hd hf ?_))
  dsimp only
  rw [byScan_of hsc hb hel]
  simp only [↓reduceIte]
  unfold setAddByScan
  refine wpAny_bind (wpAny_bind (wpAny_rule (wpAny_bind (wpAny_setScan_of (knd := mixKind P w) hv ho hd hf hel ?_))))
  cases hfi : List.findIdx? (fun e => (mixKind P w).is k e.2) es.toList with
  | some j =>
    dsimp only
    obtain ⟨hj, pj, _⟩ := List.findIdx?_eq_some_iff_getElem.mp hfi
    have hm : k ∈ L.map (·.2) := find_mem P w hks es.toList[j] (by rw [← hes]; exact List.getElem_mem hj) pj
    exact wpAny_pure (wpAny_pure (hQ false s.heap L (Heap.SameBut.refl S s.heap) ⟨es, ep, t, ⟨⟨o, ho, hex, hd⟩, hb, hf, hr, hl⟩, hes, hks⟩ (fun _ => rfl) fun z => absurd hm z))
  | none =>
    dsimp only
    have hnk : k ∉ L.map (·.2) := fun z => by
      obtain ⟨p, hp, rfl⟩ := List.mem_map.mp z
      have c := List.findIdx?_eq_none_iff.mp hfi (keyH w p.2, p.1) (by rw [hes]; exact List.mem_map.mpr ⟨p, hp, rfl⟩)
      have c2 : (mixKind P w).is p.2 p.1 = true := hks p hp
      rw [c2] at c; cases c
    have hgw : ∀ (b : Bool) {s₁ : Shared} {Q' : Unit → Shared → Prop}, Q' () s₁ → wpAny (model P w) A (match b with | true => rule "set.scan.the-table-gave-way" | false => pure ()) Q' E s₁ := fun b _ _ q => by
      cases b
      · exact wpAny_pure q
      · exact wpAny_rule q
    have pm := layNew_perm t es ((mixKind P w).hash k) v
    have hf1 := layNew_fits t es ((mixKind P w).hash k) v
    have hr1 := layNew_ris t es ((mixKind P w).hash k) v hr
    have hl1 := layNew_led t es ((mixKind P w).hash k) v
    have hkk : (mixKind P w).hash k = keyH w k := rfl
    rw [← hkk]
    generalize layNew t es ((mixKind P w).hash k) v = Z at pm hf1 hr1 hl1 ⊢
    obtain ⟨es1, t1, wasDummy, gave⟩ := Z
    dsimp only at pm hf1 hr1 hl1 ⊢
    rw [Array.toList_push] at pm
    have pc : es1.toList.Perm ((keyH w k, v) :: es.toList) := pm.trans (List.perm_append_singleton _ _)
    obtain ⟨L1, pL, eL⟩ := perm_lift (fun p : Value × Key => (keyH w p.2, p.1)) pc ((v, k) :: L) (by rw [List.map_cons, hes])
    have k1 : ∀ p ∈ L1, keyIs p.2 p.1 = true := fun p hp => by
      rcases List.mem_cons.mp (pL.mem_iff.mp hp) with z | z
      · rw [z]; exact hv
      · exact hks p z
    have hsz : es1.size = L.length + 1 := by rw [← Array.length_toList, pc.length_eq, List.length_cons, Array.length_toList, hlen]
    have hb1 : es1.size < scanBound := by rw [hsz]; unfold scanBound; omega
    have hled : w.params.followText "set-order" = true ∨ t1.led = true := hl.imp id fun z => by rw [hl1]; exact z
    have fin : ∀ h' L', Heap.SameBut S s.heap h' → KI w S h' L' → L'.Perm L1 → Q true { s with heap := h' } := fun h' L' sb r q => hQ true h' L' sb r (fun z => absurd z hnk) fun _ => q.trans pL
    refine wpAny_bind (hgw _ ?_)
    split
    · refine wpAny_bind ?_
      rw [hashByValue_scannable 8 hsc]
      refine wpAny_pure ?_
      refine tail_th ?_ ho hex hd eL.symm k1 hb1 ?_ ?_ ?_ ?_
      · intro b s₁ Q' q; cases b <;> first | exact wpAny_pure q | exact wpAny_rule q
      · first | (split <;> first | exact hf1 | exact SetTable.fits_plain_off hf1) | exact hf1
      · first | (split <;> exact hr1) | exact hr1
      · first | (split <;> exact hled) | exact hled
      · intro h' L' sb r q; dsimp only; exact wpAny_pure (fin h' L' sb r q)
    · refine wpAny_bind (wpAny_pure ?_)
      simp only [↓reduceIte]
      refine tail_th ?_ ho hex hd eL.symm k1 hb1 hf1 hr1 hled ?_
      · intro b s₁ Q' q; cases b <;> first | exact wpAny_pure q | exact wpAny_rule q
      · intro h' L' sb r q; dsimp only; exact wpAny_pure (fin h' L' sb r q)
/-- the theory of sets of ints and texts -/
def thK (P : Program) (w : World) (S : Addr) (h0 : Heap) : Th P w Key S h0 where
  I := KI w S
  Ky := fun v k => keyIs k v = true
  keep := fun h h' L ⟨es, ep, t, x, r⟩ k _ => ⟨es, ep, t, x.at k, r⟩
  add := fun A E s v k L Q hu hI hv hz _ hQ => by
    unfold setAdd
    refine wpAny_holding (wpAny_bind ((mixKind P w).pyHash hv ?_))
    refine add_key (s := { s with toks := s.toks + 1 }) hI hv hz fun b h' L' sb r c1 c2 => hQ b h' (s.toks + 1) L' (Nat.le_succ _) sb r c1 c2
theorem fresh_thK (S : Addr) (h0 : Heap) : Fresh (thK P w S h0) := fun h ho => ⟨#[], 0, _, sat_new ho, rfl, fun p hp => by cases hp⟩
end
end DX
namespace DX
open PySem PySem.Spec PyProof.Rows L2
/-- a set object whose things are xs, in the order of its table -/
def SetO (w : World) (p : Addr) (xs : List V) : HO := .ext fun h => ∃ es ep t, Sat w h p es ep t ∧ Vals xs (es.toList.map (·.2))
theorem setO_ok {P : Program} {w : World} {H : Hp} {h : Heap} {p : Addr} {xs : List V} {es : Array (Int × Value)} {ep : Nat} {t : SetTable} (x : Sat w h p es ep t) (r : Vals xs (es.toList.map (·.2))) : ObjOk P w H h p (SetO w p xs) :=
  ⟨⟨es, ep, t, x, r⟩, let ⟨o, ho, _⟩ := x.ob; ⟨o, ho⟩, fun h1 h2 ⟨es, ep, t, x, r⟩ k => ⟨es, ep, t, x.at k, r⟩⟩
theorem setO_get {X : Cx} {pins : List (Addr × Obj)} {σ : L2.St} {H : Hp} {s : Shared} {p : Addr} {xs : List V} (I : Inv X pins σ H s) (hp : H p = some (SetO X.w p xs)) : ∃ es ep t, Sat X.w s.heap p es ep t ∧ Vals xs (es.toList.map (·.2)) := (I.hok p _ hp).1
/-- values paired with their keys -/
theorem keyed_of : ∀ {ks : List Key} {us : List Value}, Vals (ks.map kV) us → ∃ zs : List (Value × Key), us = zs.map (·.1) ∧ ks = zs.map (·.2) ∧ ∀ z ∈ zs, keyIs z.2 z.1 = true
  | [], _, .nil => ⟨[], rfl, rfl, fun z h => by cases h⟩
  | k :: ks, _, .cons (b := u) r t => by
    obtain ⟨zs, e1, e2, h⟩ := keyed_of t
    refine ⟨(u, k) :: zs, by rw [e1, List.map_cons], by rw [e2, List.map_cons], fun z hz => ?_⟩
    rcases List.mem_cons.mp hz with e | hz
    · rw [e]
      cases k with
      | inl i => obtain ⟨tk, rfl⟩ := r; exact keyIs_int i tk
      | inr x => obtain ⟨tk, rfl⟩ := r; exact keyIs_str x tk
    · exact h z hz
theorem vals_of_keyed : ∀ (L : List (Value × Key)), (∀ z ∈ L, keyIs z.2 z.1 = true) → Vals ((L.map (·.2)).map kV) (L.map (·.1))
  | [], _ => .nil
  | (v, k) :: L, h => by
    refine .cons ?_ (vals_of_keyed L fun z hz => h z (List.mem_cons_of_mem _ hz))
    exact relV_key (h (v, k) List.mem_cons_self)
section
variable {X : Cx}
/-- set(xs), xs a list or a tuple of ints and texts -/
def rSetK (w : World) (K : PySem.W.Frag) : List V → Hp → VK → Prop := fun vs H Q => ∃ (a : Addr) (ks : List Key), vs = [.ref a] ∧ (SqL K H a (ks.map kV) ∨ SqT K H a (ks.map kV)) ∧ ks.length < 64 ∧
  ∀ (p : Addr) (js : List Key), H p = none → js.Nodup → (∀ k, k ∈ js ↔ k ∈ ks) → Q (.ref p) (upd H p (SetO w p (js.map kV)))
theorem cr_setK (hc : X.calm = true) (hu : X.A.units + 60 < cLine) : CallR X (.type "set") (rSetK X.w X.K) := by
  intro pins s σ H vs us Q I rv h
  obtain ⟨a, ks, rfl, hsq, hfew, q⟩ := h
  obtain rfl := Vals.ref1 rv
  have hh : X.A.handled = none := I.ok.hd hc
  have main : ∀ (zs : List (Value × Key)), ks = zs.map (·.2) → (∀ z ∈ zs, keyIs z.2 z.1 = true) → ∀ (h' : Heap) (tk : Nat) (L : List (Value × Key)), KI X.w s.heap.objs.size h' L → Has zs zs.length L → (∀ b o, s.heap.get? b = some o → h'.get? b = some o) →
      EP X pins σ Q (.ref s.heap.objs.size) { s with heap := h', toks := tk } := by
    intro zs ez hz h' tk L ⟨es, ep, t, x, e1, e2⟩ g kp
    have hv : Vals ((L.map (·.2)).map kV) (es.toList.map (·.2)) := by
      have e3 : es.toList.map (·.2) = L.map (·.1) := by rw [e1, List.map_map]; rfl
      rw [e3]
      exact vals_of_keyed L e2
    refine ⟨.ref s.heap.objs.size, _, I.laid kp (Nat.le_refl _) (setO_ok x hv), rfl, q _ _ (I.hok.fresh (Nat.le_refl _)) g.nd fun k => ?_⟩
    rw [ez]
    constructor
    · intro hk
      obtain ⟨p, hp, rfl⟩ := List.mem_map.mp hk
      exact List.mem_map.mpr ⟨p, List.mem_of_mem_take (g.sub p hp), rfl⟩
    · intro hk
      obtain ⟨p, hp, rfl⟩ := List.mem_map.mp hk
      exact g.all p (by rw [List.take_length]; exact hp)
  rcases hsq with hsq | hsq
  · obtain ⟨its, r, pl, hz⟩ := I.list hsq
    obtain ⟨zs, e1, e2, hk⟩ := keyed_of r
    have hl : zs.length < 64 := by rw [e2, List.length_map] at hfew; exact hfew
    refine set_call (fun h' tk => ∃ L, KI X.w s.heap.objs.size h' L ∧ Has zs zs.length L ∧ ∀ b o, s.heap.get? b = some o → h'.get? b = some o) (fun A' s1 E' Q' ha hun e hQ => ?_) fun h' tk ⟨L, x, g, kp⟩ => main zs e2 hk h' tk L x g kp
    subst e
    have pl' : (s.heap.push (new0 X.w)).IsList a its.toArray := pl.isList.push _
    obtain ⟨ol, hol, _⟩ := id pl.isList
    refine upd_list (s := { s with heap := s.heap.push (new0 X.w) }) zs (thK X.prog X.w s.heap.objs.size s.heap) (ha.trans hh) pl' (by simpa using e1) hk hl (by omega) (fresh_thK _ _ _ (Heap.get?_push_size _ rfl)) (Nat.ne_of_gt (Heap.lt_size hol)) (by show _ < (s.heap.push _).objs.size; rw [Heap.size_push]; exact Nat.lt_succ_self _) (none_ge (Nat.le_refl _)) (by show _ ≤ (s.heap.push _).objs.size; rw [Heap.size_push]; exact Nat.le_succ _) (fun b o e => Heap.get?_push_of_some _ e)
      fun h' tk L x g kp => hQ h' tk ⟨L, x, g, kp⟩
  · obtain ⟨its, r, ⟨o, ho, hcl, n, hdt⟩, hz⟩ := I.tuple hsq
    obtain ⟨zs, e1, e2, hk⟩ := keyed_of r
    have hl : zs.length < 64 := by rw [e2, List.length_map] at hfew; exact hfew
    refine set_call (fun h' tk => ∃ L, KI X.w s.heap.objs.size h' L ∧ Has zs zs.length L ∧ ∀ b o, s.heap.get? b = some o → h'.get? b = some o) (fun A' s1 E' Q' ha hun e hQ => ?_) fun h' tk ⟨L, x, g, kp⟩ => main zs e2 hk h' tk L x g kp
    subst e
    refine upd_tuple (s := { s with heap := s.heap.push (new0 X.w) }) zs (thK X.prog X.w s.heap.objs.size s.heap) (ha.trans hh) ⟨o, Heap.get?_push_of_some _ ho, hcl, n, hdt⟩ (by simpa using e1) hk hl (by omega) (fresh_thK _ _ _ (Heap.get?_push_size _ rfl)) (Nat.ne_of_gt (Heap.lt_size ho)) (by show _ < (s.heap.push _).objs.size; rw [Heap.size_push]; exact Nat.lt_succ_self _) (none_ge (Nat.le_refl _)) (by show _ ≤ (s.heap.push _).objs.size; rw [Heap.size_push]; exact Nat.le_succ _) (fun b o e => Heap.get?_push_of_some _ e)
      fun h' tk L x g kp => hQ h' tk ⟨L, x, g, kp⟩
theorem pair_of : ∀ {zs : List (V × PyData)} {us : List Value}, Vals (zs.map (·.1)) us → ∃ ws : List ((V × PyData) × Value), zs = ws.map (·.1) ∧ us = ws.map (·.2) ∧ ∀ z ∈ ws, RelV z.1.1 z.2
  | [], _, .nil => ⟨[], rfl, rfl, fun z h => by cases h⟩
  | z :: zs, _, .cons (b := u) r t => by
    obtain ⟨ws, e1, e2, h⟩ := pair_of t
    refine ⟨(z, u) :: ws, by rw [e1, List.map_cons], by rw [e2, List.map_cons], fun y hy => ?_⟩
    rcases List.mem_cons.mp hy with e | hy
    · rw [e]; exact r
    · exact h y hy
theorem each_of : ∀ {ws : List ((V × PyData) × Value)}, (∀ z ∈ ws, RelV z.1.1 z.2) → PySem.W.EachIs (fun v (b : V × PyData) => RelV b.1 v) (ws.map (·.2)) (ws.map (·.1))
  | [], _ => .nil
  | z :: ws, h => .cons (h z List.mem_cons_self) (each_of fun y hy => h y (List.mem_cons_of_mem _ hy))
theorem vals_each : ∀ {us : List Value} {bs : List (V × PyData)}, PySem.W.EachIs (fun v (b : V × PyData) => RelV b.1 v) us bs → Vals (bs.map (·.1)) us
  | _, _, .nil => .nil
  | _, _, .cons r t => .cons r (vals_each t)
mutual
theorem reads_there {h : Heap} : ∀ {v : Value} {d : PyData} {as : List Addr}, Reads h v d as → ∀ a ∈ as, ∃ o, h.get? a = some o
  | _, _, _, .none, a, ha => by cases ha
  | _, _, _, .bool _, a, ha => by cases ha
  | _, _, _, .int _ _, a, ha => by cases ha
  | _, _, _, .str _ _, a, ha => by cases ha
  | _, _, _, .list ho _ _ r, a, ha => by
    rcases List.mem_cons.mp ha with e | ha
    · rw [e]; exact ⟨_, ho⟩
    · exact readsAll_there r a ha
  | _, _, _, .tuple ho _ _ r, a, ha => readsAll_there r a ha
  | _, _, _, .dict ho _ _ r r2, a, ha => by
    rcases List.mem_append.mp ha with ha | ha
    · rcases List.mem_cons.mp ha with e | ha
      · rw [e]; exact ⟨_, ho⟩
      · exact readsAll_there r a ha
    · exact readsAll_there r2 a ha
theorem readsAll_there {h : Heap} : ∀ {vs : List Value} {ds : List PyData} {as : List Addr}, ReadsAll h vs ds as → ∀ a ∈ as, ∃ o, h.get? a = some o
  | _, _, _, .nil, a, ha => by cases ha
  | _, _, _, .cons r rs, a, ha => by
    rcases List.mem_append.mp ha with ha | ha
    · exact reads_there r a ha
    · exact readsAll_there rs a ha
end
/-- sorted(a set) -/
def rSortO (w : World) (K : PySem.W.Frag) : List V → Hp → VK → Prop := fun vs H Q => ∃ (p : Addr) (zs : List (V × PyData)), vs = [.ref p] ∧ H p = some (SetO w p (zs.map (·.1))) ∧ (∀ z ∈ zs, Dp K H z.1 z.2) ∧
  PySem.W.AllAlike (zs.map (·.2)) ∧ Srt (zs.map (·.2)) ∧ (∀ z ∈ zs, z.2.depth ≤ 100) ∧
  ∀ (q : Addr) (zs' : List (V × PyData)), zs'.Perm zs → H q = none → Q (.ref q) (upd H q (.lst ((zs'.mergeSort (PySem.W.dataLe false (·.2))).map (·.1))))
theorem cr_sortO (hc : X.calm = true) (hu : X.A.units + 120 < cLine) : CallR X (.builtin "sorted") (rSortO X.w X.K) := by
  intro pins s σ H vs us Q I rv h
  obtain ⟨p, zs, rfl, hp, hD, hal, hk, hdp, q⟩ := h
  obtain rfl := Vals.ref1 rv
  obtain ⟨es, ep, t, x, r⟩ := setO_get I hp
  obtain ⟨o, ho, hex, hd⟩ := x.ob
  have hh : X.A.handled = none := I.ok.hd hc
  refine Calls.call_function_entry kind_sorted plain_sorted entry_sorted (args_sorted1 _) ?_
  unfold Builtin.«sorted»
  refine wpAny_bind (m := checkCount "sorted" 1 1 _) (wpAny_pure (wpAny_bind (collect_set (A := X.A.in1) hh ⟨o, ho, hex.1, hd⟩ x.fits x.few x.ris x.led fun s1 out k1 hz g1 o1 pm => ?_)))
  obtain ⟨ws, e1, e2, hw⟩ := pair_of r
  rw [e2] at pm
  obtain ⟨ws', pw, ew⟩ := perm_lift (fun z : (V × PyData) × Value => z.2) pm ws rfl
  have hw' : ∀ z ∈ ws', RelV z.1.1 z.2 := fun z hz => hw z (pw.mem_iff.mp hz)
  have pz : (ws'.map (·.1)).Perm zs := by rw [e1]; exact pw.map _
  have hlen : out.length = ws'.length := by rw [← ew, List.length_map]
  have hfew := x.few
  unfold scanBound at hfew
  have hsz : out.length < 4096 := by
    rw [pm.length_eq, List.length_map]
    have : ws.length = es.size := by have := congrArg List.length e2; simpa using this.symm
    omega
  refine wpAny_bind (wpAny_newList ?_ (by rw [sizeLine_eq]; omega))
  have hoL : (s1.heap.push (seqObj "list" out.toArray 0)).get? s1.heap.objs.size = some (seqObj "list" out.toArray 0) := Heap.get?_push_size _ rfl
  -- the things as they are read in the new heap
  have hrd : ∀ z ∈ ws', ∃ as, Reads (s1.heap.push (seqObj "list" out.toArray 0)) z.2 z.1.2 as ∧ s1.heap.objs.size ∉ as := fun z hz => by
    have hz1 : z.1 ∈ zs := by rw [← pz.mem_iff]; exact List.mem_map.mpr ⟨z, hz, rfl⟩
    obtain ⟨as, ra⟩ := Dp.reads I z.1.2 z.1.1 z.2 (hD _ hz1) (hw' z hz)
    have ra2 := PyProof.Rows.Reads.keeps k1 ra
    exact ⟨as, PyProof.Rows.Reads.keeps (fun b o e => Heap.get?_push_of_some _ e) ra2, fun hm => by
      obtain ⟨o, ho⟩ := reads_there ra2 _ hm
      exact absurd (Heap.lt_size ho) (Nat.lt_irrefl _)⟩
  have e0 : PySem.W.EachIs (fun v (b : V × PyData) => RelV b.1 v) out (ws'.map (·.1)) := by rw [← ew]; exact each_of hw'
  have er : PySem.W.EachIs (fun v (b : V × PyData) => ∃ as, Reads (s1.heap.push (seqObj "list" out.toArray 0)) v b.2 as ∧ s1.heap.objs.size ∉ as) out (ws'.map (·.1)) := by
    rw [← ew]
    have : ∀ l : List ((V × PyData) × Value), (∀ z ∈ l, z ∈ ws') → PySem.W.EachIs (fun v (b : V × PyData) => ∃ as, Reads (s1.heap.push (seqObj "list" out.toArray 0)) v b.2 as ∧ s1.heap.objs.size ∉ as) (l.map (·.2)) (l.map (·.1)) := by
      intro l
      induction l with
      | nil => intro _; exact .nil
      | cons z l ih => intro hl; exact .cons (hrd z (hl z List.mem_cons_self)) (ih fun y hy => hl y (List.mem_cons_of_mem _ hy))
    rw [ew]
    have := this ws' fun _ h => h
    rw [ew] at this
    exact this
  have mz : ∀ d, d ∈ (ws'.map (·.1)).map (fun b : V × PyData => b.2) → d ∈ zs.map (·.2) := fun d hd => (pz.map _).mem_iff.mp hd
  refine wpAny_bind (wpAny_holding (sort_srt (A := X.A.in1) (s := { s1 with heap := s1.heap.push (seqObj "list" out.toArray 0) }) (enc := fun b : V × PyData => b.2) hoL e0 er (fun d hd d' hd' => hal d (mz d hd) d' (mz d' hd')) ?_ (by rw [List.length_map, ← hlen, sizeLine_eq]; omega) (fun b hb => ?_) fun out2 hl2 hE => ?_))
  · rcases hk with (hk | hk) | hk
    · exact .inl (.inl fun d hd => hk d (mz d hd))
    · exact .inl (.inr fun d hd => hk d (mz d hd))
    · exact .inr fun d hd => hk d (mz d hd)
  · have hb2 : b ∈ zs := pz.mem_iff.mp hb
    have := hdp b hb2
    show X.A.units + 1 + 1 + b.2.depth < cLine
    omega
  · obtain ⟨c, hcc⟩ := sortedHeap_at (vs := out) (out := out2.toArray) hoL
    have hval := vals_each hE
    have kp : ∀ b u, s.heap.get? b = some u → (sortedHeap (s1.heap.push (seqObj "list" out.toArray 0)) s1.heap.objs.size out out2.toArray).get? b = some u := fun b u e => by
      have qq := k1 b u e
      have hlt := Heap.lt_size qq
      rw [sortedHeap_old (Nat.ne_of_lt hlt) (by rw [size_push']; exact Nat.lt_succ_of_lt hlt)]
      exact Heap.get?_push_of_some _ qq
    have hlen3 : ((ws'.map (·.1)).mergeSort (PySem.W.dataLe false fun b : V × PyData => b.2)).length ≤ sizeLine := by
      rw [List.length_mergeSort, List.length_map, ← hlen, sizeLine_eq]; omega
    refine wpAny_pure ⟨_, rfl, ?_⟩
    refine ⟨.ref s1.heap.objs.size, upd H s1.heap.objs.size (.lst (((ws'.map (·.1)).mergeSort (PySem.W.dataLe false fun b : V × PyData => b.2)).map (·.1))), ?_, rfl, q _ _ pz (I.hok.fresh hz)⟩
    refine I.call' (ch := []) o1 (Un.laid kp hz (I.hok.fresh hz)) (I.hok.laid kp hz ⟨by rw [List.length_map]; exact hlen3, out2, c, hval, hcc⟩) ?_ (fun b hb => by cases hb)
    show AllBare s1.gens
    rw [g1]; exact I.bare
end
end DX
namespace DL
open PySem PySem.Spec L2
variable {G : Type}
section
variable {K : PySem.W.Frag} {W : Wd G} {P₀ H₀ P H : Hp} {O : Addr → Option Tag} {σ : L2.St} {st st' : Sl} {τ : List V} {ts : List S} {g : G} {v : V} {d : D} {p : Addr}
theorem RelB.ofSh (R : RelB K W P₀ H₀ P O σ st τ ts H g) (h : Rep K W P d v) : Rel K W P₀ H₀ σ st (v :: τ) (.sh d :: ts) H g := ⟨P, O, R.push h⟩
theorem RelB.pnone (R : RelB K W P₀ H₀ P O σ st τ ts H g) (hp : H p = none) : P p = none := by
  cases e : P p with
  | none => rfl
  | some u => have := R.sub _ _ e; rw [hp] at this; cases this
theorem RelB.newTup {ds : List D} {xs : List V} {ob : Obj} (R : RelB K W P₀ H₀ P O σ st τ ts H g) (hp : H p = none) (hd : ob.dict = none) (rs : Reps K W P ds xs) (hz : ds.length ≤ sizeLine) : Rel K W P₀ H₀ σ st (.ref p :: τ) (.sh (.tup ds) :: ts) (upd H p (.frz ob (.tup xs))) g := by
  have pn := R.pnone hp
  refine ⟨_, O, (R.laid hp).push ?_⟩
  simp only [Rep]
  exact ⟨p, xs, rfl, .new upd_same hd, hz, Reps.mono (fun a u z => by rw [upd_ne (ne_of_none z pn)]; exact z) _ _ rs⟩
theorem RelB.newLst {ds : List D} {xs : List V} (R : RelB K W P₀ H₀ P O σ st τ ts H g) (hp : H p = none) (rs : Reps K W P ds xs) (hz : ds.length ≤ sizeLine) : Rel K W P₀ H₀ σ st (.ref p :: τ) (.ow (.lst ds) :: ts) (upd H p (.lst xs)) g := by
  obtain ⟨O', R2⟩ := R.laidOwn (d := .lst ds) hp ⟨xs, rfl, hz, rs⟩
  exact ⟨P, O', R2⟩
/-- a thing is laid that nobody looks at again -/
theorem RelB.waste {o : HO} (R : RelB K W P₀ H₀ P O σ st τ ts H g) (hp : H p = none) : RelB K W P₀ H₀ P O σ st τ ts (upd H p o) g := by
  have nf : ¬ W.fp p := fun h => W.there g H p R.wld h hp
  have sH : Sub H (upd H p o) := fun a u e => by rw [upd_ne (ne_of_none e hp)]; exact e
  refine { R with sub := R.sub.trans sH, base := fun a u e n => sH _ _ (R.base a u e n), own := fun a t e => ?_, wld := W.loc g H _ R.wld fun a h => upd_ne fun q => nf (q ▸ h), slots := fun i s e => ?_, temps := R.temps.mono (Sub.refl P) (fun _ _ _ q => q) (fun a o _ _ _ q => sH _ _ q) }
  · obtain ⟨h1, h2, h3, h4⟩ := R.own a t e
    exact ⟨h1, h2, h3, by rw [upd_ne (show a ≠ p from fun q => h4 (q ▸ hp))]; exact h4⟩
  · obtain ⟨v, e1, e2, q⟩ := R.slots i s e
    exact ⟨v, e1, e2, q.mono (Sub.refl P) (fun _ q => q) (fun a o _ q => sH _ _ q)⟩
@[simp] theorem rep_int {i : Int} : Rep K W P (.int i) v ↔ v = .int i := by simp only [Rep]
@[simp] theorem rep_str {x : Str} : Rep K W P (.str x) v ↔ v = .str x := by simp only [Rep]
@[simp] theorem rep_blk {b : Bool} : Rep K W P (.bl b) v ↔ v = .bl b := by simp only [Rep]
@[simp] theorem rep_non : Rep K W P .non v ↔ v = .non := by simp only [Rep]
@[simp] theorem rd1_int {i : Int} : Rd1 K W P H (.int i) v ↔ v = .int i := by simp only [Rd1, Rep]
@[simp] theorem rd1_str {x : Str} : Rd1 K W P H (.str x) v ↔ v = .str x := by simp only [Rd1, Rep]
@[simp] theorem rd1_bl {b : Bool} : Rd1 K W P H (.bl b) v ↔ v = .bl b := by simp only [Rd1, Rep]
@[simp] theorem rd1_non : Rd1 K W P H .non v ↔ v = .non := by simp only [Rd1, Rep]
theorem rd1_tup {ds : List D} : Rd1 K W P H (.tup ds) v ↔ ∃ a xs, v = .ref a ∧ DY.TupP K P a xs ∧ ds.length ≤ sizeLine ∧ Reps K W P ds xs := by simp only [Rd1, Rep]
theorem rd1_lst {ds : List D} : Rd1 K W P H (.lst ds) v ↔ ∃ a xs, v = .ref a ∧ H a = some (.lst xs) ∧ ds.length ≤ sizeLine ∧ Reps K W P ds xs := by simp only [Rd1]
end
/-! ### + - * // % ** -/
def opAdd : D → D → Option S
  | .int a, .int b => some (.sh (.int (a + b)))
  | .str a, .str b => if a.length + b.length ≤ sizeLine then some (.sh (.str (a ++ b))) else none
  | .tup a, .tup b => if a.length + b.length ≤ sizeLine then some (.sh (.tup (a ++ b))) else none
  | .lst a, .lst b => if a.length + b.length ≤ sizeLine then some (.ow (.lst (a ++ b))) else none
  | _, _ => none
def rAddD (K : PySem.W.Frag) : R2 := fun x y H Q => rI0 (fun i j => .int (i + j)) x y H Q ∨ (∃ i j, x = .str i ∧ y = .str j ∧ i.length + j.length ≤ sizeLine ∧ Q (.str (i ++ j)) H) ∨ DY.rCatF K x y H Q ∨ rCat x y H Q
theorem b_add {K : PySem.W.Frag} {W : Wd G} : B2 K W (rAddD K) opAdd := by
  intro P₀ H₀ P O σ st τ ts H g x y dx dy z Q R rx ry h q
  cases dx with
  | int a =>
    cases dy with
    | int b =>
      simp only [opAdd, Option.some.injEq] at h; subst h
      rw [rd1_int] at rx ry
      exact .inl ⟨a, b, rx, ry, q _ _ (R.ofSh (by simp))⟩
    | _ => cases h
  | str a =>
    cases dy with
    | str b =>
      simp only [opAdd] at h
      split at h
      · rename_i hz
        simp only [Option.some.injEq] at h; subst h
        rw [rd1_str] at rx ry
        exact .inr (.inl ⟨a, b, rx, ry, hz, q _ _ (R.ofSh (by simp))⟩)
      · cases h
    | _ => cases h
  | tup a =>
    cases dy with
    | tup b =>
      simp only [opAdd] at h
      split at h
      · rename_i hz
        simp only [Option.some.injEq] at h; subst h
        have r1 : Rep K W P (.tup a) x := rx
        have r2 : Rep K W P (.tup b) y := ry
        obtain ⟨pa, xs, ex, sx, zx, rsx⟩ := rd1_tup.mp rx
        obtain ⟨pb, ys, ey, sy, zy, rsy⟩ := rd1_tup.mp ry
        subst ex ey
        refine .inr (.inr (.inl ⟨pa, pb, xs, ys, rfl, rfl, R.sub.sqT sx.sq, R.sub.sqT sy.sq, by rw [rsx.length, rsy.length]; exact hz, fun e => ?_, fun _ e => ?_, fun _ _ p ob hp hd => q _ _ (R.newTup hp hd (rsx.append rsy) (by simpa using hz))⟩))
        · have : a = [] := by have := rsx.length; rw [e] at this; exact List.length_eq_zero_iff.mp this.symm
          subst this
          exact q _ _ (R.ofSh r2)
        · have : b = [] := by have := rsy.length; rw [e] at this; exact List.length_eq_zero_iff.mp this.symm
          subst this
          exact q _ _ (R.ofSh (by rw [List.append_nil]; exact r1))
      · cases h
    | _ => cases h
  | lst a =>
    cases dy with
    | lst b =>
      simp only [opAdd] at h
      split at h
      · rename_i hz
        simp only [Option.some.injEq] at h; subst h
        obtain ⟨pa, xs, ex, sx, zx, rsx⟩ := rd1_lst.mp rx
        obtain ⟨pb, ys, ey, sy, zy, rsy⟩ := rd1_lst.mp ry
        subst ex ey
        exact .inr (.inr (.inr ⟨pa, pb, xs, ys, rfl, rfl, sx, sy, by rw [rsx.length, rsy.length]; exact hz, fun p hp => q _ _ (R.newLst hp (rsx.append rsy) (by simpa using hz))⟩))
      · cases h
    | _ => cases h
  | _ => cases h
section
variable {C : CF} {Fam : Wd G → Prop} {a b : Expr} {fa fb : M G S} {pos : Pos}
theorem d_add (ha : DE C Fam a fa) (hb : DE C Fam b fb) : DE C Fam (.BinOp a .Add b pos) (mOp opAdd fa fb) :=
  d_op (fun j => op_add.or (op_add_str.or ((by rw [← C.hK j]; exact DY.op_catF : OpR (C.X j) (binaryOp .Add) (DY.rCatF C.K)).or op_cat))) (fun _ _ => b_add) ha hb
end
/-- operators of two ints -/
def opI2 (c : Int → Int → Bool) (f : Int → Int → D) : D → D → Option S
  | .int a, .int b => if c a b = true then some (.sh (f a b)) else none
  | _, _ => none
theorem b_i2 {K : PySem.W.Frag} {W : Wd G} {c : Int → Int → Bool} {f : Int → Int → D} {r : R2} {k : Int → Int → V} (hk : ∀ a b P, Rep K W P (f a b) (k a b)) (hr : ∀ a b H (Q : VK), c a b = true → Q (k a b) H → r (.int a) (.int b) H Q) : B2 K W r (opI2 c f) := by
  intro P₀ H₀ P O σ st τ ts H g x y dx dy z Q R rx ry h q
  cases dx with
  | int a =>
    cases dy with
    | int b =>
      simp only [opI2] at h
      split at h
      · rename_i hc
        simp only [Option.some.injEq] at h; subst h
        rw [rd1_int] at rx ry; subst rx ry
        exact hr a b H Q hc (q _ _ (R.ofSh (hk a b P)))
      · cases h
    | _ => cases h
  | _ => cases h
abbrev opSub : D → D → Option S := opI2 (fun _ _ => true) fun a b => .int (a - b)
def okMul (i j : Int) : Bool := decide (i.natAbs.log2 + j.natAbs.log2 < 1000000)
def opMul : D → D → Option S
  | .int a, .int b => if okMul a b = true then some (.sh (.int (a * b))) else none
  | .lst a, .int k => if -(2 ^ 63) ≤ k ∧ k < 2 ^ 63 ∧ a.length * k.toNat ≤ sizeLine then some (.ow (.lst (List.replicate k.toNat a).flatten)) else none
  | _, _ => none
def okDiv (i j : Int) : Bool := decide (0 < j ∧ j.natAbs.log2 < 9000)
abbrev opFdiv : D → D → Option S := opI2 okDiv fun a b => .int (a / b)
abbrev opMod : D → D → Option S := opI2 (fun _ b => decide (0 < b)) fun a b => .int (a % b)
def okPow (i j : Int) : Bool := decide (0 ≤ j ∧ j ≤ 1000000 ∧ i.natAbs < 2 ^ 64)
abbrev opPow : D → D → Option S := opI2 okPow fun a b => .int (a ^ b.toNat)
theorem Reps.rep {K : PySem.W.Frag} {W : Wd G} {P : Hp} {ds : List D} {xs : List V} (h : Reps K W P ds xs) : ∀ n : Nat, Reps K W P (List.replicate n ds).flatten (List.replicate n xs).flatten
  | 0 => by simp [Reps]
  | n + 1 => by rw [List.replicate_succ, List.replicate_succ, List.flatten_cons, List.flatten_cons]; exact h.append (Reps.rep h n)
theorem b_mul {K : PySem.W.Frag} {W : Wd G} : B2 K W (fun x y H Q => rI CMulW (fun i j => .int (i * j)) x y H Q ∨ rRep x y H Q) opMul := by
  intro P₀ H₀ P O σ st τ ts H g x y dx dy z Q R rx ry h q
  cases dx with
  | int a =>
    cases dy with
    | int b =>
      simp only [opMul] at h
      split at h
      · rename_i hc
        simp only [Option.some.injEq] at h; subst h
        rw [rd1_int] at rx ry; subst rx ry
        exact .inl ⟨a, b, rfl, rfl, (show CMulW a b from (by simpa [okMul] using hc : a.natAbs.log2 + b.natAbs.log2 < 1000000)), q _ _ (R.ofSh (by simp))⟩
      · cases h
    | _ => cases h
  | lst a =>
    cases dy with
    | int k =>
      simp only [opMul] at h
      split at h
      · rename_i hc
        simp only [Option.some.injEq] at h; subst h
        rw [rd1_int] at ry; subst ry
        obtain ⟨pa, xs, ex, sx, zx, rsx⟩ := rd1_lst.mp rx
        subst ex
        exact .inr ⟨pa, k, xs, rfl, rfl, sx, hc.1, hc.2.1, by rw [rsx.length]; exact hc.2.2, fun p hp => q _ _ (R.newLst hp (rsx.rep _) (by simp; rw [Nat.mul_comm]; exact hc.2.2))⟩
      · cases h
    | _ => cases h
  | _ => cases h
section
variable {C : CF} {Fam : Wd G → Prop} {a b : Expr} {fa fb : M G S} {pos : Pos}
theorem d_mul (ha : DE C Fam a fa) (hb : DE C Fam b fb) : DE C Fam (.BinOp a .Mult b pos) (mOp opMul fa fb) :=
  d_op (fun j => op_mulW.or op_rep) (fun _ _ => b_mul) ha hb
theorem d_fdiv (ha : DE C Fam a fa) (hb : DE C Fam b fb) : DE C Fam (.BinOp a .FloorDiv b pos) (mOp opFdiv fa fb) :=
  d_op (fun j => op_fdivW) (fun _ _ => b_i2 (k := fun a b => .int (a / b)) (fun a b P => by simp) fun a b H Q h q => ⟨a, b, rfl, rfl, (show CDivW a b from (by simpa [okDiv] using h : 0 < b ∧ b.natAbs.log2 < 9000)), q⟩) ha hb
theorem d_mod (ha : DE C Fam a fa) (hb : DE C Fam b fb) : DE C Fam (.BinOp a .Mod b pos) (mOp opMod fa fb) :=
  d_op (fun j => op_mod) (fun _ _ => b_i2 (k := fun a b => .int (a % b)) (fun a b P => by simp) fun a b H Q h q => ⟨a, b, rfl, rfl, of_decide_eq_true h, q⟩) ha hb
theorem d_pow (ha : DE C Fam a fa) (hb : DE C Fam b fb) : DE C Fam (.BinOp a .Pow b pos) (mOp opPow fa fb) :=
  d_op (fun j => op_pow) (fun _ _ => b_i2 (k := fun a b => .int (a ^ b.toNat)) (fun a b P => by simp) fun a b H Q h q => ⟨a, b, rfl, rfl, (show CPow a b from (by simpa [okPow] using h : 0 ≤ b ∧ b ≤ 1000000 ∧ a.natAbs < 2 ^ 64)), q⟩) ha hb
end
/-! ### data: ==, <, in -/
mutual
def D.py : D → PyData
  | .non => .none
  | .bl b => .bool b
  | .int i => .int i
  | .str x => .str x
  | .tup xs => .tuple (D.pys xs)
  | .lst xs => .list (D.pys xs)
  | .dct _ => .none
  | .dcn _ => .none
  | .obj _ => .none
def D.pys : List D → List PyData
  | [] => []
  | d :: ds => d.py :: D.pys ds
end
mutual
/-- no dict, no object within -/
def D.pl : D → Bool
  | .non => true
  | .bl _ => true
  | .int _ => true
  | .str _ => true
  | .tup xs => D.pls xs
  | .lst xs => D.pls xs
  | .dct _ => false
  | .dcn _ => false
  | .obj _ => false
def D.pls : List D → Bool
  | [] => true
  | d :: ds => d.pl && D.pls ds
end
mutual
theorem Rep.dp {K : PySem.W.Frag} {W : Wd G} {P H : Hp} (s : Sub P H) : ∀ (d : D) (v : V), d.pl = true → Rep K W P d v → Dp K H v d.py
  | .non, v, _, h => by rw [rep_non] at h; subst h; simp only [D.py]; exact .non
  | .bl b, v, _, h => by rw [rep_blk] at h; subst h; simp only [D.py]; exact .bl b
  | .int i, v, _, h => by rw [rep_int] at h; subst h; simp only [D.py]; exact .int i
  | .str x, v, _, h => by rw [rep_str] at h; subst h; simp only [D.py]; exact .str x
  | .tup ds, v, hp, h => by
    simp only [Rep] at h
    obtain ⟨a, xs, rfl, sq, _, r⟩ := h
    simp only [D.pl] at hp
    simp only [D.py]
    exact .tup (s.sqT sq.sq) (Reps.dp s ds xs hp r)
  | .lst ds, v, hp, h => by
    simp only [Rep] at h
    obtain ⟨a, xs, rfl, sq, _, r⟩ := h
    simp only [D.pl] at hp
    simp only [D.py]
    exact .lst (SqL.of (s _ _ sq)) (Reps.dp s ds xs hp r)
  | .dct _, v, hp, h => by simp [D.pl] at hp
  | .dcn _, v, hp, h => by simp [D.pl] at hp
  | .obj _, v, hp, h => by simp [D.pl] at hp
theorem Reps.dp {K : PySem.W.Frag} {W : Wd G} {P H : Hp} (s : Sub P H) : ∀ (ds : List D) (vs : List V), D.pls ds = true → Reps K W P ds vs → DpAll K H vs (D.pys ds)
  | [], vs, _, h => by simp only [Reps] at h; subst h; simp only [D.pys]; exact .nil
  | d :: ds, vs, hp, h => by
    simp only [Reps] at h
    obtain ⟨v, r, rfl, h1, h2⟩ := h
    simp only [D.pls, Bool.and_eq_true] at hp
    simp only [D.pys]
    exact .cons (Rep.dp s d v hp.1 h1) (Reps.dp s ds r hp.2 h2)
end
theorem Rd1.dp {K : PySem.W.Frag} {W : Wd G} {P H : Hp} (s : Sub P H) {d : D} {v : V} (hp : d.pl = true) (h : Rd1 K W P H d v) : Dp K H v d.py := by
  cases d with
  | lst ds =>
    obtain ⟨a, xs, rfl, sq, _, r⟩ := h
    simp only [D.pl] at hp
    simp only [D.py]
    exact .lst (SqL.of sq) (Reps.dp s ds xs hp r)
  | dct _ => simp [D.pl] at hp
  | dcn _ => simp [D.pl] at hp
  | _ => exact Rep.dp (W := W) s _ _ hp h
mutual
theorem D.plain_of : ∀ d : D, d.pl = true → d.py.plain = true
  | .non, _ => rfl
  | .bl _, _ => rfl
  | .int _, _ => rfl
  | .str _, _ => rfl
  | .tup ds, h => by simp only [D.pl] at h; simp only [D.py, PyData.plain]; exact D.plains_of ds h
  | .lst ds, h => by simp only [D.pl] at h; simp only [D.py, PyData.plain]; exact D.plains_of ds h
  | .dct _, h => by simp [D.pl] at h
  | .dcn _, h => by simp [D.pl] at h
  | .obj _, h => by simp [D.pl] at h
theorem D.plains_of : ∀ ds : List D, D.pls ds = true → PyData.plainAll (D.pys ds) = true
  | [], _ => rfl
  | d :: ds, h => by
    simp only [D.pls, Bool.and_eq_true] at h
    simp only [D.pys, PyData.plainAll, Bool.and_eq_true]
    exact ⟨D.plain_of d h.1, D.plains_of ds h.2⟩
end
def eqD (a b : D) : Bool := PyData.eqv a.py b.py
def okEq (a b : D) : Bool := a.pl && b.pl && decide (min a.py.depth b.py.depth ≤ 100)
def opEq (a b : D) : Option S := if okEq a b = true then some (.sh (.bl (eqD a b))) else none
def opNe (a b : D) : Option S := if okEq a b = true then some (.sh (.bl (!eqD a b))) else none
def rEqP (K : PySem.W.Frag) (neg : Bool) : R2 := fun x y H Q => ∃ d e, Dp K H x d ∧ Dp K H y e ∧ d.plain = true ∧ e.plain = true ∧ min d.depth e.depth ≤ 100 ∧ Q (.bl (if neg then !PyData.eqv d e else PyData.eqv d e)) H
section
variable {X : Cx}
theorem op_eqP (hu : X.A.units + 150 < cLine) : OpR X (compareOp .Eq) (rEqP X.K false) := by
  intro pins s σ H x y v u Q I rx ry h
  obtain ⟨d, e, hd, he, pd, pe, hz, q⟩ := h
  obtain ⟨as, r1⟩ := Dp.reads I d x v hd rx
  obtain ⟨bs, r2⟩ := Dp.reads I e y u he ry
  exact SeqAt.eq_plain r1 r2 pd pe (by omega) ⟨.bl _, H, I, rfl, q⟩
theorem op_neP (hu : X.A.units + 150 < cLine) : OpR X (compareOp .NotEq) (rEqP X.K true) := by
  intro pins s σ H x y v u Q I rx ry h
  obtain ⟨d, e, hd, he, pd, pe, hz, q⟩ := h
  obtain ⟨as, r1⟩ := Dp.reads I d x v hd rx
  obtain ⟨bs, r2⟩ := Dp.reads I e y u he ry
  exact SeqAt.ne_plain r1 r2 pd pe (by omega) ⟨.bl _, H, I, rfl, q⟩
/-- < <= > >= -/
def cmpD : CmpOp → PyData → PyData → Bool
  | .Lt, a, b => PySem.W.dataLt a b
  | .Gt, a, b => PySem.W.dataLt b a
  | .LtE, a, b => !PySem.W.dataLt b a
  | .GtE, a, b => !PySem.W.dataLt a b
  | _, _, _ => false
def rCmpP (K : PySem.W.Frag) (op : CmpOp) : R2 := fun x y H Q => ∃ d e, Dp K H x d ∧ Dp K H y e ∧ PySem.W.alike d e = true ∧ d ≠ .none ∧ min d.depth e.depth ≤ 100 ∧ Q (.bl (cmpD op d e)) H
theorem op_cmpP {op : CmpOp} (ho : op = .Lt ∨ op = .Gt ∨ op = .LtE ∨ op = .GtE) (hu : X.A.units + 150 < cLine) : OpR X (compareOp op) (rCmpP X.K op) := by
  intro pins s σ H x y v u Q I rx ry h
  obtain ⟨d, e, hd, he, al, nn, hz, q⟩ := h
  obtain ⟨as, r1⟩ := Dp.reads I d x v hd rx
  obtain ⟨bs, r2⟩ := Dp.reads I e y u he ry
  rcases ho with rfl | rfl | rfl | rfl
  · exact PySem.W.lt_data r1 r2 al nn (by omega) ⟨.bl _, H, I, rfl, q⟩
  · exact PySem.W.gt_data r1 r2 al nn (by omega) ⟨.bl _, H, I, rfl, q⟩
  · exact PySem.W.le_data r1 r2 al nn (by omega) ⟨.bl _, H, I, rfl, q⟩
  · exact PySem.W.ge_data r1 r2 al nn (by omega) ⟨.bl _, H, I, rfl, q⟩
end
def okCmp (a b : D) : Bool := a.pl && b.pl && PySem.W.alike a.py b.py && decide (min a.py.depth b.py.depth ≤ 100) && (match a with | .non => false | _ => true)
def opCmp (op : CmpOp) (a b : D) : Option S := if okCmp a b = true then some (.sh (.bl (cmpD op a.py b.py))) else none
theorem b_eq {K : PySem.W.Frag} {W : Wd G} : B2 K W (rEqP K false) opEq := by
  intro P₀ H₀ P O σ st τ ts H g x y dx dy z Q R rx ry h q
  unfold opEq at h
  split at h
  · rename_i hc
    simp only [Option.some.injEq] at h; subst h
    simp only [okEq, Bool.and_eq_true, decide_eq_true_eq] at hc
    exact ⟨_, _, rx.dp R.sub hc.1.1, ry.dp R.sub hc.1.2, D.plain_of _ hc.1.1, D.plain_of _ hc.1.2, hc.2, q _ _ (R.ofSh (by simp [eqD]))⟩
  · cases h
theorem b_ne {K : PySem.W.Frag} {W : Wd G} : B2 K W (rEqP K true) opNe := by
  intro P₀ H₀ P O σ st τ ts H g x y dx dy z Q R rx ry h q
  unfold opNe at h
  split at h
  · rename_i hc
    simp only [Option.some.injEq] at h; subst h
    simp only [okEq, Bool.and_eq_true, decide_eq_true_eq] at hc
    exact ⟨_, _, rx.dp R.sub hc.1.1, ry.dp R.sub hc.1.2, D.plain_of _ hc.1.1, D.plain_of _ hc.1.2, hc.2, q _ _ (R.ofSh (by simp [eqD]))⟩
  · cases h
theorem b_cmp {K : PySem.W.Frag} {W : Wd G} {op : CmpOp} : B2 K W (rCmpP K op) (opCmp op) := by
  intro P₀ H₀ P O σ st τ ts H g x y dx dy z Q R rx ry h q
  unfold opCmp at h
  split at h
  · rename_i hc
    simp only [Option.some.injEq] at h; subst h
    simp only [okCmp, Bool.and_eq_true, decide_eq_true_eq] at hc
    refine ⟨_, _, rx.dp R.sub hc.1.1.1.1, ry.dp R.sub hc.1.1.1.2, hc.1.1.2, fun e => ?_, hc.1.2, q _ _ (R.ofSh (by simp))⟩
    have h1 := hc.2
    have h2 := hc.1.1.1.1
    cases dx <;> simp [D.py, D.pl] at e h1 h2
  · cases h
end DL
namespace DL
open PySem PySem.Spec L2
variable {G : Type}
/-! ### comparisons -/
section
variable {C : CF} {Fam : Wd G → Prop} {a b c : Expr} {fa fb fc : M G S} {pos : Pos}
theorem CF.eqP (C : CF) (j : C.ι) : OpR (C.X j) (compareOp .Eq) (rEqP C.K false) := by rw [← C.hK j]; exact op_eqP (by have := C.un j; omega)
theorem CF.neP (C : CF) (j : C.ι) : OpR (C.X j) (compareOp .NotEq) (rEqP C.K true) := by rw [← C.hK j]; exact op_neP (by have := C.un j; omega)
theorem CF.cmpP (C : CF) (j : C.ι) {op : CmpOp} (ho : op = .Lt ∨ op = .Gt ∨ op = .LtE ∨ op = .GtE) : OpR (C.X j) (compareOp op) (rCmpP C.K op) := by rw [← C.hK j]; exact op_cmpP ho (by have := C.un j; omega)
theorem d_eq (ha : DE C Fam a fa) (hb : DE C Fam b fb) : DE C Fam (.Compare a [.Eq] [b] pos) (mOp opEq fa fb) := d_cmp C.eqP (fun _ _ => b_eq) ha hb
theorem t_eq (ha : DE C Fam a fa) (hb : DE C Fam b fb) : DT C Fam (.Compare a [.Eq] [b] pos) (mTest (mOp opEq fa fb)) := d_tcmp C.eqP (fun _ _ => b_eq) ha hb
theorem t_ne (ha : DE C Fam a fa) (hb : DE C Fam b fb) : DT C Fam (.Compare a [.NotEq] [b] pos) (mTest (mOp opNe fa fb)) := d_tcmp C.neP (fun _ _ => b_ne) ha hb
theorem t_ord {op : CmpOp} (ho : op = .Lt ∨ op = .Gt ∨ op = .LtE ∨ op = .GtE) (ha : DE C Fam a fa) (hb : DE C Fam b fb) : DT C Fam (.Compare a [op] [b] pos) (mTest (mOp (opCmp op) fa fb)) :=
  d_tcmp (fun j => C.cmpP j ho) (fun _ _ => b_cmp) ha hb (by rcases ho with rfl | rfl | rfl | rfl <;> exact nobehind _ (by decide) (by decide))
abbrev oGt : CmpOp.Gt = .Lt ∨ CmpOp.Gt = .Gt ∨ CmpOp.Gt = .LtE ∨ CmpOp.Gt = .GtE := .inr (.inl rfl)
abbrev oGe : CmpOp.GtE = .Lt ∨ CmpOp.GtE = .Gt ∨ CmpOp.GtE = .LtE ∨ CmpOp.GtE = .GtE := .inr (.inr (.inr rfl))
/-! a < b < c -/
def mChain (f f' : D → D → Option S) (fa fb fc : M G S) : M G S := fun st g =>
  bnd (fa st g) fun x st g => bnd (fb st g) fun y st g => (peek x st).bind fun dx => (peek y st).bind fun dy => (f dx dy).bind fun z =>
    match z with
    | .sh (.bl true) => bnd (fc st g) fun w st g => (peek y st).bind fun dy => (peek w st).bind fun dw => (f' dy dw).map fun z => (z, st, g)
    | .sh (.bl false) => some (.sh (.bl false), st, g)
    | _ => none
end
/-! ### dicts with ints and texts for keys -/
def keyD : D → Option Key
  | .int i => some (.inl i)
  | .str x => some (.inr x)
  | _ => none
theorem keyD_kD (k : Key) : keyD (kD k) = some k := by cases k <;> rfl
theorem kD_of {d : D} {k : Key} (h : keyD d = some k) : d = kD k := by
  cases d <;> simp [keyD] at h <;> subst h <;> rfl
def kEq (a b : D) : Bool := decide (keyD a = keyD b) && (keyD a).isSome
theorem kEq_kD (a b : Key) : kEq (kD a) (kD b) = decide (a = b) := by simp [kEq, keyD_kD]
def dlook (kvs : List (D × D)) (k : D) : Option D := (kvs.find? fun p => kEq p.1 k).map (·.2)
def dput (kvs : List (D × D)) (k v : D) : List (D × D) := if (kvs.any fun p => kEq p.1 k) = true then kvs.map (fun p => if kEq p.1 k = true then (p.1, v) else p) else kvs ++ [(k, v)]
section
variable {K : PySem.W.Frag} {W : Wd G} {P H : Hp} {v : V}
theorem rep_key {d : D} {k : Key} (h : keyD d = some k) (r : Rep K W P d v) : v = kV k := by
  rw [kD_of h] at r
  cases k <;> simpa [kD, kV] using r
theorem rd1_key {d : D} {k : Key} (h : keyD d = some k) (r : Rd1 K W P H d v) : v = kV k := by
  rw [kD_of h] at r
  cases k <;> simpa [kD, kV] using r
theorem Repk.look : ∀ {kvs : List (D × D)} {ks : List (Key × V)} (k : Key), Repk K W P kvs (ks.map fun p => (kD p.1, p.2)) → (dlook kvs (kD k) = none ∧ valV ks k = none) ∨ ∃ d v, dlook kvs (kD k) = some d ∧ valV ks k = some v ∧ Rep K W P d v
  | [], ks, k, h => by
    simp only [Repk, List.map_eq_nil_iff] at h; subst h
    left; exact ⟨rfl, rfl⟩
  | (k0, d) :: kvs, ks, k, h => by
    simp only [Repk] at h
    obtain ⟨v, r, e, r1, r2⟩ := h
    cases ks with
    | nil => cases e
    | cons p ks =>
      simp only [List.map_cons, List.cons.injEq, Prod.mk.injEq] at e
      obtain ⟨⟨e1, e2⟩, e3⟩ := e
      subst e1 e2 e3
      by_cases hk : p.1 = k
      · right
        refine ⟨d, p.2, ?_, valV_pos hk, r1⟩
        simp [dlook, kEq_kD, hk]
      · rw [valV_neg hk]
        have e : dlook ((kD p.1, d) :: kvs) (kD k) = dlook kvs (kD k) := by simp [dlook, kEq_kD, hk]
        rw [e]
        exact Repk.look k r2
theorem Repk.any : ∀ {kvs : List (D × D)} {ks : List (Key × V)} (k : Key), Repk K W P kvs (ks.map fun p => (kD p.1, p.2)) → (kvs.any fun p => kEq p.1 (kD k)) = ks.any fun kv => decide (kv.1 = k)
  | [], ks, k, h => by simp only [Repk, List.map_eq_nil_iff] at h; subst h; rfl
  | (k0, d) :: kvs, ks, k, h => by
    simp only [Repk] at h
    obtain ⟨v, r, e, r1, r2⟩ := h
    cases ks with
    | nil => cases e
    | cons p ks =>
      simp only [List.map_cons, List.cons.injEq, Prod.mk.injEq] at e
      obtain ⟨⟨e1, e2⟩, e3⟩ := e
      subst e1 e2 e3
      simp only [List.any_cons, kEq_kD, Repk.any k r2]
theorem Repk.repl {d' : D} {v' : V} (hr : Rep K W P d' v') : ∀ {kvs : List (D × D)} {ks : List (Key × V)} (k : Key), Repk K W P kvs (ks.map fun p => (kD p.1, p.2)) →
    Repk K W P (kvs.map fun p => if kEq p.1 (kD k) = true then (p.1, d') else p) ((ks.map fun kv => if kv.1 = k then (kv.1, v') else kv).map fun p => (kD p.1, p.2))
  | [], ks, k, h => by simp only [Repk, List.map_eq_nil_iff] at h; subst h; simp [Repk]
  | (k0, d) :: kvs, ks, k, h => by
    simp only [Repk] at h
    obtain ⟨v, r, e, r1, r2⟩ := h
    cases ks with
    | nil => cases e
    | cons p ks =>
      simp only [List.map_cons, List.cons.injEq, Prod.mk.injEq] at e
      obtain ⟨⟨e1, e2⟩, e3⟩ := e
      subst e1 e2 e3
      have ih := Repk.repl hr k r2
      by_cases hk : p.1 = k
      · simp only [List.map_cons, kEq_kD, hk, decide_true, if_true, Repk]
        exact ⟨v', _, rfl, hr, ih⟩
      · simp only [List.map_cons, kEq_kD, hk, decide_false, Bool.false_eq_true, if_false, Repk]
        exact ⟨p.2, _, rfl, r1, ih⟩
theorem Repk.snoc {d' : D} {v' : V} (k : D) (hr : Rep K W P d' v') : ∀ {kvs : List (D × D)} {ks : List (D × V)}, Repk K W P kvs ks → Repk K W P (kvs ++ [(k, d')]) (ks ++ [(k, v')])
  | [], ks, h => by simp only [Repk] at h; subst h; simp only [List.nil_append, Repk]; exact ⟨v', [], rfl, hr, rfl⟩
  | (k0, d) :: kvs, ks, h => by
    simp only [Repk] at h
    obtain ⟨v, r, rfl, r1, r2⟩ := h
    simp only [List.cons_append, Repk]
    exact ⟨v, _, rfl, r1, Repk.snoc k hr r2⟩
theorem Repk.put {d' : D} {v' : V} (hr : Rep K W P d' v') {kvs : List (D × D)} {ks : List (Key × V)} (k : Key) (h : Repk K W P kvs (ks.map fun p => (kD p.1, p.2))) : Repk K W P (dput kvs (kD k) d') ((putK ks k v').map fun p => (kD p.1, p.2)) := by
  unfold dput putK
  rw [Repk.any k h]
  split
  · exact h.repl hr k
  · rw [List.map_append]; exact h.snoc (kD k) hr
theorem Repk.length : ∀ {kvs : List (D × D)} {ks : List (D × V)}, Repk K W P kvs ks → ks.length = kvs.length
  | [], ks, h => by simp only [Repk] at h; subst h; rfl
  | (k0, d) :: kvs, ks, h => by
    simp only [Repk] at h
    obtain ⟨v, r, rfl, r1, r2⟩ := h
    simp [Repk.length r2]
end
end DL
namespace DL
open PySem PySem.Spec L2
variable {G : Type}
/-! ### in, not in -/
def subStr (a b : Str) : Bool := !(Builtin.Str.occurrences b a 0 b.length 1).isEmpty
def okIn (x : D) (ds : List D) : Bool := x.pl && D.pls ds && decide (min (PyData.depthAll (D.pys ds)) x.py.depth ≤ 100)
def inD (x : D) (ds : List D) : Bool := ds.any fun y => eqD y x
def opIn (neg : Bool) : D → D → Option S
  | x, .lst ds => if okIn x ds = true then some (.sh (.bl (neg ^^ inD x ds))) else none
  | x, .tup ds => if okIn x ds = true then some (.sh (.bl (neg ^^ inD x ds))) else none
  | x, .dct kvs => match keyD x with
    | some k => some (.sh (.bl (neg ^^ (dlook kvs x).isSome)))
    | none => none
  | .str a, .str b => some (.sh (.bl (neg ^^ subStr a b)))
  | _, _ => none
theorem any_pys (x : PyData) : ∀ ds : List D, ((D.pys ds).any fun y => PyData.eqv y x) = ds.any fun y => PyData.eqv y.py x
  | [] => rfl
  | d :: ds => by simp only [D.pys, List.any_cons, any_pys x ds]
def rInP (K : PySem.W.Frag) (neg : Bool) : R2 := fun x y H Q =>
  (∃ d ds, Dp K H x d ∧ (Dp K H y (.list ds) ∨ Dp K H y (.tuple ds)) ∧ d.plain = true ∧ PyData.plainAll ds = true ∧ min (PyData.depthAll ds) d.depth ≤ 100 ∧ Q (.bl (neg ^^ ds.any fun y => PyData.eqv y d)) H) ∨
  (∃ i j, x = .str i ∧ y = .str j ∧ Q (.bl (neg ^^ subStr i j)) H) ∨ (∃ a o, y = .ref a ∧ DGet H a x o ∧ Q (.bl (neg ^^ o.isSome)) H)
theorem op_inP {X : Cx} (hu : X.A.units + 150 < cLine) : OpR X (compareOp .In) (rInP X.K false) := by
  intro pins s σ H x y v u Q I rx ry h
  rcases h with ⟨d, ds, hd, he, pd, pe, hz, q⟩ | ⟨i, j, rfl, rfl, q⟩ | ⟨a, o, rfl, g, q⟩
  · obtain ⟨as, r1⟩ := Dp.reads I d x v hd rx
    rcases he with he | he
    · obtain ⟨bs, r2⟩ := Dp.reads I _ y u he ry
      exact SeqAt.in_list_data r2 r1 pe pd (by omega) ⟨.bl _, H, I, rfl, by simpa using q⟩
    · obtain ⟨bs, r2⟩ := Dp.reads I _ y u he ry
      exact SeqAt.in_tuple_data r2 r1 pe pd (by omega) ⟨.bl _, H, I, rfl, by simpa using q⟩
  · exact op_in_str pins s σ H _ _ v u Q I rx ry ⟨i, j, rfl, rfl, by simpa [subStr] using q⟩
  · obtain rfl : u = .ref a := ry
    exact d_in (by omega) I g rx fun s' I' => ⟨.bl _, H, I', rfl, by simpa using q⟩
theorem op_ninP {X : Cx} (hu : X.A.units + 150 < cLine) : OpR X (compareOp .NotIn) (rInP X.K true) := by
  intro pins s σ H x y v u Q I rx ry h
  rcases h with ⟨d, ds, hd, he, pd, pe, hz, q⟩ | ⟨i, j, rfl, rfl, q⟩ | ⟨a, o, rfl, g, q⟩
  · obtain ⟨as, r1⟩ := Dp.reads I d x v hd rx
    rcases he with he | he
    · obtain ⟨bs, r2⟩ := Dp.reads I _ y u he ry
      exact SeqAt.notIn_list_data r2 r1 pe pd (by omega) ⟨.bl _, H, I, rfl, by simpa using q⟩
    · obtain ⟨bs, r2⟩ := Dp.reads I _ y u he ry
      exact SeqAt.notIn_tuple_data r2 r1 pe pd (by omega) ⟨.bl _, H, I, rfl, by simpa using q⟩
  · exact op_notin_str pins s σ H _ _ v u Q I rx ry ⟨i, j, rfl, rfl, by simpa [subStr] using q⟩
  · obtain rfl : u = .ref a := ry
    exact d_notIn (by omega) I g rx fun s' I' => ⟨.bl _, H, I', rfl, by simpa using q⟩
theorem b_in {K : PySem.W.Frag} {W : Wd G} {neg : Bool} : B2 K W (rInP K neg) (opIn neg) := by
  intro P₀ H₀ P O σ st τ ts H g x y dx dy z Q R rx ry h q
  have seq : ∀ (ds : List D), okIn dx ds = true → z = .sh (.bl (neg ^^ inD dx ds)) → (Dp K H y (.list (D.pys ds)) ∨ Dp K H y (.tuple (D.pys ds))) → rInP K neg x y H Q := fun ds hc hz hy => by
    simp only [okIn, Bool.and_eq_true, decide_eq_true_eq] at hc
    subst hz
    refine .inl ⟨dx.py, D.pys ds, rx.dp R.sub hc.1.1, hy, D.plain_of _ hc.1.1, D.plains_of _ hc.1.2, hc.2, q _ _ (R.ofSh ?_)⟩
    simp only [rep_blk, inD, any_pys]
    rfl
  cases dy with
  | lst ds =>
    have h' : (if okIn dx ds = true then some (S.sh (.bl (neg ^^ inD dx ds))) else none) = some z := by cases dx <;> exact h
    split at h'
    · rename_i hc
      have hc2 := hc
      simp only [okIn, Bool.and_eq_true] at hc2
      have := Rd1.dp (K := K) (W := W) R.sub (d := .lst ds) (by simp only [D.pl]; exact hc2.1.2) ry
      simp only [D.py] at this
      exact seq ds hc (Option.some.inj h').symm (.inl this)
    · cases h'
  | tup ds =>
    have h' : (if okIn dx ds = true then some (S.sh (.bl (neg ^^ inD dx ds))) else none) = some z := by cases dx <;> exact h
    split at h'
    · rename_i hc
      have hc2 := hc
      simp only [okIn, Bool.and_eq_true] at hc2
      have := Rd1.dp (K := K) (W := W) R.sub (d := .tup ds) (by simp only [D.pl]; exact hc2.1.2) ry
      simp only [D.py] at this
      exact seq ds hc (Option.some.inj h').symm (.inr this)
    · cases h'
  | dct kvs =>
    have h' : (match keyD dx with | some k => some (S.sh (.bl (neg ^^ (dlook kvs dx).isSome))) | none => none) = some z := by cases dx <;> exact h
    cases hk : keyD dx with
    | none => rw [hk] at h'; cases h'
    | some k =>
      rw [hk] at h'
      simp only [Option.some.injEq] at h'; subst h'
      obtain ⟨a, o, ks, rfl, eH, ⟨ks', hdk0, rfl⟩, rp⟩ := ry
      have ex := rd1_key hk rx
      subst ex
      have hdk := kD_of hk
      refine .inr (.inr ⟨a, valV ks' k, rfl, .inl ⟨ks', k, hdk0.rd eH, rfl, rfl⟩, q _ _ (R.ofSh ?_)⟩)
      rw [rep_blk]
      subst hdk
      rcases rp.look k with ⟨e1, e2⟩ | ⟨d, v, e1, e2, _⟩ <;> rw [e1, e2] <;> rfl
  | str b =>
    cases dx with
    | str a =>
      simp only [opIn, Option.some.injEq] at h; subst h
      rw [rd1_str] at rx ry
      exact .inr (.inl ⟨a, b, rx, ry, q _ _ (R.ofSh (by simp))⟩)
    | _ => cases h
  | _ => cases dx <;> cases h
section
variable {C : CF} {Fam : Wd G → Prop} {a b c : Expr} {fa fb fc : M G S} {pos p p2 : Pos}
theorem CF.inP (C : CF) (j : C.ι) : OpR (C.X j) (compareOp .In) (rInP C.K false) := by rw [← C.hK j]; exact op_inP (by have := C.un j; omega)
theorem CF.ninP (C : CF) (j : C.ι) : OpR (C.X j) (compareOp .NotIn) (rInP C.K true) := by rw [← C.hK j]; exact op_ninP (by have := C.un j; omega)
theorem t_in (ha : DE C Fam a fa) (hb : DE C Fam b fb) (hm : behindInMarks .In b = false := by rfl) : DT C Fam (.Compare a [.In] [b] pos) (mTest (mOp (opIn false) fa fb)) := d_tcmp C.inP (fun _ _ => b_in) ha hb hm
theorem t_nin (ha : DE C Fam a fa) (hb : DE C Fam b fb) (hm : behindInMarks .NotIn b = false := by rfl) : DT C Fam (.Compare a [.NotIn] [b] pos) (mTest (mOp (opIn true) fa fb)) := d_tcmp C.ninP (fun _ _ => b_in) ha hb hm
/-! is None -/
def isNon : D → Bool
  | .non => true
  | _ => false
def opIs (neg : Bool) : D → D → Option S
  | .obj _, _ => none
  | d, .non => some (.sh (.bl (neg ^^ isNon d)))
  | _, _ => none
theorem rd1_isNon {K : PySem.W.Frag} {W : Wd G} {P H : Hp} {d : D} {v : V} (h : Rd1 K W P H d v) (ho : ∀ n, d ≠ .obj n) : decide (v = .non) = isNon d := by
  cases d with
  | non => rw [rd1_non] at h; subst h; rfl
  | bl b => rw [rd1_bl] at h; subst h; rfl
  | int b => rw [rd1_int] at h; subst h; rfl
  | str b => rw [rd1_str] at h; subst h; rfl
  | tup b => obtain ⟨a, xs, rfl, _⟩ := rd1_tup.mp h; rfl
  | lst b => obtain ⟨a, xs, rfl, _⟩ := rd1_lst.mp h; rfl
  | dct b => obtain ⟨a, xs, ks, rfl, _⟩ := h; rfl
  | dcn b => obtain ⟨a, xs, ks, rfl, _⟩ := h; rfl
  | obj n => exact absurd rfl (ho n)
theorem b_is {K : PySem.W.Frag} {W : Wd G} {neg : Bool} : B2 K W (fun x y H Q => y = .non ∧ Q (.bl (neg ^^ decide (x = .non))) H) (opIs neg) := by
  intro P₀ H₀ P O σ st τ ts H g x y dx dy z Q R rx ry h q
  have hd : ∀ n, dx ≠ .obj n := fun n e => by subst e; cases dy <;> cases h
  cases dy with
  | non =>
    have h' : some (S.sh (.bl (neg ^^ isNon dx))) = some z := by cases dx <;> first | exact h | cases h
    cases h'
    rw [rd1_non] at ry
    exact ⟨ry, q _ _ (R.ofSh (by rw [rep_blk, rd1_isNon rx hd]))⟩
  | _ => cases dx <;> cases h
theorem op_isnt' {X : Cx} : OpR X (compareOp .IsNot) (fun x y H Q => y = .non ∧ Q (.bl (true ^^ decide (x = .non))) H) := fun pins s σ H x y v u Q I rx ry h => op_notN pins s σ H x y v u Q I rx ry ⟨h.1, by simpa using h.2⟩
theorem t_isnt (ha : DE C Fam a fa) (hb : DE C Fam b fb) : DT C Fam (.Compare a [.IsNot] [b] pos) (mTest (mOp (opIs true) fa fb)) := d_tcmp (fun _ => op_isnt') (fun _ _ => b_is) ha hb
/-! ### x[i] -/
def opIx : D → D → Option S
  | .tup ds, .int i => (atI ds i).map S.sh
  | .lst ds, .int i => (atI ds i).map S.sh
  | .str x, .int i => if x.length ≤ sizeLine then (atI x.cps.toList i).map fun c => S.sh (.str ⟨#[c]⟩) else none
  | .dct kvs, k => match keyD k with
    | some _ => (dlook kvs k).map S.sh
    | none => none
  | _, _ => none
theorem atI_rep {K : PySem.W.Frag} {W : Wd G} {P : Hp} {ds : List D} {xs : List V} {i : Int} {d : D} (r : Reps K W P ds xs) (h : atI ds i = some d) : ∃ v, atI xs i = some v ∧ Rep K W P d v := by
  unfold atI at h ⊢
  rw [r.length]
  cases e : ixN ds.length i with
  | none => rw [e] at h; cases h
  | some j =>
    rw [e] at h
    exact r.get h
def rDG : R2 := fun x y H Q => ∃ a v, x = .ref a ∧ DGet H a y (some v) ∧ Q v H
theorem PE.or {X : Cx} {e : Expr} {t t' : TE} (h : PE X e t) (h' : PE X e t') : PE X e (fun σ H Q => t σ H Q ∨ t' σ H Q) := ⟨fun pins s σ H Q I q => q.elim (h.run pins s σ H Q I) (h'.run pins s σ H Q I)⟩
theorem d_sub' (ha : DE C Fam a fa) (hb : DE C Fam b fb) (hs : PlainIx b := by exact fun _ _ => rfl) : DE C Fam (.Subscript a b pos) (mOp opIx fa fb) := by
  obtain ⟨ta, pa, ea⟩ := ha.ex
  obtain ⟨tb, pb, eb⟩ := hb.ex
  refine ⟨fun σ H Q => tOp (rIx C.K) ta tb σ H Q ∨ tOp rDG ta tb σ H Q, fun j => PE.or (by rw [← C.hK j]; exact pe_ix ix_seq (pa j) (pb j) hs) (pe_dget (by have := C.un j; omega) (pa j) (pb j) hs), fun W hW P₀ H₀ σ st τ ts H g z st' g' Q R h q => ?_⟩
  obtain ⟨x, st1, g1, e1, h⟩ := bnd_eq h
  obtain ⟨y, st2, g2, e2, h⟩ := bnd_eq h
  obtain ⟨dx, e3, h⟩ := Option.bind_eq_some_iff.mp h
  obtain ⟨dy, e4, h⟩ := Option.bind_eq_some_iff.mp h
  obtain ⟨z', e5, h⟩ := Option.map_eq_some_iff.mp h
  simp only [Prod.mk.injEq] at h; obtain ⟨rfl, rfl, rfl⟩ := h
  have main : ∀ (r : R2), (∀ (P : Hp) (O : Addr → Option Tag) (H2 : Hp) (v1 v2 : V), RelB C.K W P₀ H₀ P O σ st2 τ ts H2 g2 → Rd1 C.K W P H2 dx v1 → Rd1 C.K W P H2 dy v2 → r v1 v2 H2 Q) → tOp r ta tb σ H Q := fun r hr => by
    refine ea W hW _ _ _ _ _ _ _ _ _ _ _ _ R e1 fun v1 H1 R1 => ?_
    refine eb W hW _ _ _ _ _ _ _ _ _ _ _ _ R1 e2 fun v2 H2 R2 => ?_
    obtain ⟨P, O, R2⟩ := R2
    exact hr P O H2 v1 v2 R2.pop.pop (R2.pop.peekV e3) (R2.peekV e4)
  cases dx with
  | tup ds =>
    cases dy with
    | int i =>
      left
      refine main _ fun P O H2 v1 v2 R2 r1 r2 => ?_
      rw [rd1_int] at r2
      obtain ⟨pa, xs, rfl, sq, _, rs⟩ := rd1_tup.mp r1
      simp only [opIx] at e5
      obtain ⟨d, e6, rfl⟩ := Option.map_eq_some_iff.mp e5
      obtain ⟨v, e7, rv⟩ := atI_rep rs e6
      exact .inr (.inl ⟨pa, xs, i, v, rfl, r2, R2.sub.sqT sq.sq, e7, q _ _ (R2.ofSh rv)⟩)
    | _ => cases e5
  | lst ds =>
    cases dy with
    | int i =>
      left
      refine main _ fun P O H2 v1 v2 R2 r1 r2 => ?_
      rw [rd1_int] at r2
      obtain ⟨pa, xs, rfl, sq, _, rs⟩ := rd1_lst.mp r1
      simp only [opIx] at e5
      obtain ⟨d, e6, rfl⟩ := Option.map_eq_some_iff.mp e5
      obtain ⟨v, e7, rv⟩ := atI_rep rs e6
      exact .inl ⟨pa, xs, i, v, rfl, r2, SqL.of sq, e7, q _ _ (R2.ofSh rv)⟩
    | _ => cases e5
  | str x =>
    cases dy with
    | int i =>
      left
      refine main _ fun P O H2 v1 v2 R2 r1 r2 => ?_
      rw [rd1_int] at r2
      rw [rd1_str] at r1
      simp only [opIx] at e5
      split at e5
      · rename_i hz
        obtain ⟨c, e6, rfl⟩ := Option.map_eq_some_iff.mp e5
        exact .inr (.inr ⟨x, i, c, r1, r2, hz, e6, q _ _ (R2.ofSh (by simp))⟩)
      · cases e5
    | _ => cases e5
  | dct kvs =>
    right
    have h' : (match keyD dy with | some _ => (dlook kvs dy).map S.sh | none => none) = some z' := by cases dy <;> exact e5
    cases hk : keyD dy with
    | none => rw [hk] at h'; cases h'
    | some k =>
      rw [hk] at h'
      obtain ⟨d, e6, rfl⟩ := Option.map_eq_some_iff.mp h'
      refine main _ fun P O H2 v1 v2 R2 r1 r2 => ?_
      obtain ⟨pa, o, ks, rfl, eH, ⟨ks', hdk0, rfl⟩, rp⟩ := r1
      have ey := rd1_key hk r2
      subst ey
      have hdk := kD_of hk
      subst hdk
      rcases rp.look k with ⟨f1, f2⟩ | ⟨d', v, f1, f2, rv⟩
      · rw [f1] at e6; cases e6
      · rw [f1] at e6; cases e6
        exact ⟨pa, v, rfl, .inl ⟨ks', k, hdk0.rd eH, rfl, f2.symm⟩, q _ _ (R2.ofSh rv)⟩
  | _ => cases dy <;> cases e5
end
end DL
namespace DL
open PySem PySem.Spec L2
variable {G : Type}
section
variable {C : CF} {Fam : Wd G → Prop} {a b c : Expr} {fa fb fc : M G S} {pos p p2 : Pos} {x : Str} {id T : String} {r : List V → Hp → VK → Prop} {f : D → Option S}
theorem d_cb (hc : ∀ j, CallR (C.X j) (.builtin id) r) (hf : ∀ W, Fam W → B1 C.K W (fun v => r [v]) f) (hv : bootBuiltins x = some (.builtin id)) (hm : C.mg x = none) (ha : DE C Fam a fa) (hg : ∀ j, Gl (C.X j) x := by intro _; rfl) (hn : x ≠ "__name__" := by decide) (hdb : (x == ("__debug__" : Str)) = false := by decide)
    (he : ∀ j, starEach [a] (C.X j).env = (false, eval a (C.X j).env) :: starEach [] (C.X j).env := by intro _; rfl) : DE C Fam (.Call (.Name x p) [a] [] pos) (mUn f fa) := by
  obtain ⟨ta, pa, ea⟩ := ha.ex
  exact ⟨tUn (fun v => r [v]) ta, fun j => pe_callB (hc j) (hg j) (by rw [C.hmg j]; exact hm) hv (pa_cons (pa j) pa_nil (he j)) hn hdb (he j), fun W h => ev_un (ea W h) (hf W h)⟩
theorem d_ct (hc : ∀ j, CallR (C.X j) (.type T) r) (hf : ∀ W, Fam W → B1 C.K W (fun v => r [v]) f) (hv : bootBuiltins x = some (.type T)) (hm : C.mg x = none) (ha : DE C Fam a fa) (hg : ∀ j, Gl (C.X j) x := by intro _; rfl) (hn : x ≠ "__name__" := by decide) (hdb : (x == ("__debug__" : Str)) = false := by decide)
    (he : ∀ j, starEach [a] (C.X j).env = (false, eval a (C.X j).env) :: starEach [] (C.X j).env := by intro _; rfl) : DE C Fam (.Call (.Name x p) [a] [] pos) (mUn f fa) := by
  obtain ⟨ta, pa, ea⟩ := ha.ex
  exact ⟨tUn (fun v => r [v]) ta, fun j => pe_callTy (hc j) (hg j) (by rw [C.hmg j]; exact hm) hv (pa_cons (pa j) pa_nil (he j)) hn hdb (he j), fun W h => ev_un (ea W h) (hf W h)⟩
end
/-! len -/
def opLen : D → Option S
  | .tup ds => some (.sh (.int ds.length))
  | .lst ds => some (.sh (.int ds.length))
  | .dct ds => some (.sh (.int ds.length))
  | .str x => if x.length ≤ sizeLine then some (.sh (.int x.length)) else none
  | _ => none
def rLen (K : PySem.W.Frag) : List V → Hp → VK → Prop := fun xs H Q => (∃ x n, xs = [x] ∧ LenV K x H n ∧ Q (.int n) H) ∨ ∃ a kvs, xs = [V.ref a] ∧ Rd H a (.dK kvs) ∧ Q (.int kvs.length) H
theorem call_lenR {X : Cx} : CallR X (.builtin "len") (fun xs H Q => ∃ a kvs, xs = [V.ref a] ∧ Rd H a (.dK kvs) ∧ Q (.int kvs.length) H) := by
  intro pins s σ H xs us Q I r h
  obtain ⟨a, kvs, rfl, ha, q⟩ := h
  obtain ⟨u, rfl, ru⟩ := vals1 r
  cases ru
  exact L2.d_len I ha fun t s' I' => ⟨.int kvs.length, H, I', ⟨t, rfl⟩, q⟩
theorem b_len {K : PySem.W.Frag} {W : Wd G} : B1 K W (fun v => rLen K [v]) opLen := by
  intro P₀ H₀ P O σ st τ ts H g x dx z Q R rx h q
  cases dx with
  | tup ds =>
    cases h
    obtain ⟨a, xs, rfl, sq, _, rs⟩ := rd1_tup.mp rx
    exact .inl ⟨_, xs.length, rfl, .inr ⟨xs, R.sub.sqT sq.sq, rfl⟩, q _ _ (R.ofSh (by simp [rs.length]))⟩
  | lst ds =>
    cases h
    obtain ⟨a, xs, rfl, sq, _, rs⟩ := rd1_lst.mp rx
    exact .inl ⟨_, xs.length, rfl, .inl ⟨xs, SqL.of sq, rfl⟩, q _ _ (R.ofSh (by simp [rs.length]))⟩
  | dct ds =>
    cases h
    obtain ⟨a, o, ks, rfl, eH, ⟨ks', hdk0, rfl⟩, rp⟩ := rx
    exact .inr ⟨a, ks', rfl, hdk0.rd eH, q _ _ (R.ofSh (by have := rp.length; simp at this; simp [this]))⟩
  | str y =>
    simp only [opLen] at h
    split at h
    · rename_i hz
      cases h
      rw [rd1_str] at rx; subst rx
      exact .inl ⟨_, y.length, rfl, ⟨hz, rfl⟩, q _ _ (R.ofSh (by simp))⟩
    · cases h
  | _ => cases h
/-! tuple, list -/
def opTuple : D → Option S
  | .tup ds => some (.sh (.tup ds))
  | .lst ds => some (.sh (.tup ds))
  | _ => none
theorem b_tuple {K : PySem.W.Frag} {W : Wd G} : B1 K W (fun v => DY.rTupleF K [v]) opTuple := by
  intro P₀ H₀ P O σ st τ ts H g x dx z Q R rx h q
  cases dx with
  | tup ds =>
    cases h
    have r0 := rx
    obtain ⟨a, xs, rfl, sq, _, rs⟩ := rd1_tup.mp rx
    exact ⟨a, xs, rfl, .inr ⟨R.sub.sqT sq.sq, q _ _ (R.ofSh r0)⟩⟩
  | lst ds =>
    cases h
    obtain ⟨a, xs, rfl, sq, hz, rs⟩ := rd1_lst.mp rx
    exact ⟨a, xs, rfl, .inl ⟨SqL.of sq, fun p ob hp hd => q _ _ (R.newTup hp hd rs hz)⟩⟩
  | _ => cases h
def opList : D → Option S
  | .tup ds => some (.ow (.lst ds))
  | .lst ds => some (.ow (.lst ds))
  | _ => none
/-! all, any, sum -/
def intsD : List D → Option (List Int)
  | [] => some []
  | .int b :: ds => (intsD ds).map (b :: ·)
  | _ => none
theorem intsD_rep {K : PySem.W.Frag} {W : Wd G} {P : Hp} : ∀ {ds : List D} {bs : List Int} {xs : List V}, intsD ds = some bs → Reps K W P ds xs → xs = bs.map V.int
  | [], bs, xs, h, r => by
    simp only [intsD, Option.some.injEq] at h; subst h
    simp only [Reps] at r; rw [r]; rfl
  | d :: ds, bs, xs, h, r => by
    cases d with
    | int b =>
      simp only [intsD] at h
      obtain ⟨bs', e, rfl⟩ := Option.map_eq_some_iff.mp h
      simp only [Reps] at r
      obtain ⟨v, r', rfl, h1, h2⟩ := r
      rw [rep_int] at h1; subst h1
      rw [intsD_rep e h2]; rfl
    | _ => cases h
/-! int, abs -/
def opInt : D → Option S
  | .int i => some (.sh (.int i))
  | .bl k => some (.sh (.int (if k then 1 else 0)))
  | _ => none
def opAbs : D → Option S
  | .int i => some (.sh (.int (if i < 0 then -i else i)))
  | _ => none
section
variable {C : CF} {Fam : Wd G → Prop} {a b c : Expr} {fa fb fc : M G S} {pos p p2 : Pos}
theorem d_len (hm : C.mg "len" = none) (ha : DE C Fam a fa) (hg : ∀ j, Gl (C.X j) "len" := by intro _; rfl) (he : ∀ j, starEach [a] (C.X j).env = (false, eval a (C.X j).env) :: starEach [] (C.X j).env := by intro _; rfl) : DE C Fam (.Call (.Name "len" p) [a] [] pos) (mUn opLen fa) :=
  d_cb (r := rLen C.K) (fun j => by rw [← C.hK j]; exact call_len.or call_lenR) (fun _ _ => b_len) boot_len hm ha hg (he := he)
theorem d_tuple (hm : C.mg "tuple" = none) (ha : DE C Fam a fa) (hg : ∀ j, Gl (C.X j) "tuple" := by intro _; rfl) (he : ∀ j, starEach [a] (C.X j).env = (false, eval a (C.X j).env) :: starEach [] (C.X j).env := by intro _; rfl) : DE C Fam (.Call (.Name "tuple" p) [a] [] pos) (mUn opTuple fa) :=
  d_ct (r := DY.rTupleF C.K) (fun j => by rw [← C.hK j]; exact DY.cr_tupleF) (fun _ _ => b_tuple) (by decide +kernel) hm ha hg (he := he)
theorem d_int1 (hm : C.mg "int" = none) (ha : DE C Fam a fa) (hg : ∀ j, Gl (C.X j) "int" := by intro _; rfl) (he : ∀ j, starEach [a] (C.X j).env = (false, eval a (C.X j).env) :: starEach [] (C.X j).env := by intro _; rfl) : DE C Fam (.Call (.Name "int" p) [a] [] pos) (mUn opInt fa) :=
  d_ct (fun j => call_int1) (fun _ _ => by
    intro P₀ H₀ P O σ st τ ts H g x dx z Q R rx h q
    cases dx with
    | int i => cases h; rw [rd1_int] at rx; exact .inl ⟨i, by rw [rx], q _ _ (R.ofSh (by simp))⟩
    | bl i => cases h; rw [rd1_bl] at rx; exact .inr ⟨i, by rw [rx], q _ _ (R.ofSh (by simp))⟩
    | _ => cases h) (by decide +kernel) hm ha hg (he := he)
theorem d_abs (hm : C.mg "abs" = none) (ha : DE C Fam a fa) (hg : ∀ j, Gl (C.X j) "abs" := by intro _; rfl) (he : ∀ j, starEach [a] (C.X j).env = (false, eval a (C.X j).env) :: starEach [] (C.X j).env := by intro _; rfl) : DE C Fam (.Call (.Name "abs" p) [a] [] pos) (mUn opAbs fa) :=
  d_cb (fun j => call_abs) (fun _ _ => by
    intro P₀ H₀ P O σ st τ ts H g x dx z Q R rx h q
    cases dx with
    | int i => cases h; rw [rd1_int] at rx; exact ⟨i, by rw [rx], q _ _ (R.ofSh (by simp))⟩
    | _ => cases h) (by decide +kernel) hm ha hg (he := he)
end
/-! isinstance -/
inductive Kd where
  | tuple | list | str | int | bool | dict
def Kd.nm : Kd → String
  | .tuple => "tuple"
  | .list => "list"
  | .str => "str"
  | .int => "int"
  | .bool => "bool"
  | .dict => "dict"
def Kd.is : Kd → D → Bool
  | .tuple, .tup _ => true
  | .list, .lst _ => true
  | .str, .str _ => true
  | .int, .int _ => true
  | .int, .bl _ => true
  | .bool, .bl _ => true
  | .dict, .dct _ => true
  | .dict, .dcn _ => true
  | _, _ => false
end DL
namespace DL
open PySem PySem.Spec PyProof.Rows L2
variable {G : Type}
/-! ### ascending, each once -/
def ltD (a b : D) : Bool := PySem.W.dataLt a.py b.py
def insD (x : D) : List D → List D
  | [] => [x]
  | y :: ys => if ltD x y = true then x :: y :: ys else if ltD y x = true then y :: insD x ys else y :: ys
def ssD : List D → List D
  | [] => []
  | d :: ds => insD d (ssD ds)
theorem ltD_irr (a : D) : ltD a a = false := lex_irrefl _
theorem ltD_trans {a b c : D} (h : ltD a b = true) (h2 : ltD b c = true) : ltD a c = true := lex_trans _ _ _ h h2
theorem ltD_toks {a b : D} (h : ltD a b = false) (h2 : ltD b a = false) : PySem.W.keyToks a.py = PySem.W.keyToks b.py := lex_total _ _ h h2
def InjT (l : List D) : Prop := ∀ a ∈ l, ∀ b ∈ l, ltD a b = false → ltD b a = false → a = b
theorem insD_sub {x y : D} : ∀ {l : List D}, y ∈ insD x l → y = x ∨ y ∈ l
  | [], h => by simp only [insD, List.mem_singleton] at h; exact .inl h
  | z :: l, h => by
    simp only [insD] at h
    split at h
    · simpa using h
    · split at h
      · rcases List.mem_cons.mp h with e | h
        · exact .inr (e ▸ List.mem_cons_self)
        · rcases insD_sub h with e | h
          · exact .inl e
          · exact .inr (List.mem_cons_of_mem _ h)
      · exact .inr h
theorem ssD_sub {y : D} : ∀ {l : List D}, y ∈ ssD l → y ∈ l
  | [], h => by cases h
  | x :: l, h => by
    rcases insD_sub h with e | h
    · exact e ▸ List.mem_cons_self
    · exact List.mem_cons_of_mem _ (ssD_sub h)
theorem insD_old {x y : D} : ∀ {l : List D}, y ∈ l → y ∈ insD x l
  | z :: l, h => by
    simp only [insD]
    split
    · exact List.mem_cons_of_mem _ h
    · split
      · rcases List.mem_cons.mp h with e | h
        · exact e ▸ List.mem_cons_self
        · exact List.mem_cons_of_mem _ (insD_old h)
      · exact h
theorem insD_new {x : D} : ∀ {l : List D}, (∀ y ∈ l, ltD x y = false → ltD y x = false → x = y) → x ∈ insD x l
  | [], _ => List.mem_cons_self
  | z :: l, hi => by
    simp only [insD]
    split
    · exact List.mem_cons_self
    · rename_i h1
      split
      · exact List.mem_cons_of_mem _ (insD_new fun y hy => hi y (List.mem_cons_of_mem _ hy))
      · rename_i h2
        have := hi z List.mem_cons_self (by simpa using h1) (by simpa using h2)
        rw [this]; exact List.mem_cons_self
theorem ssD_mem {l : List D} (hi : InjT l) {y : D} : y ∈ ssD l ↔ y ∈ l := by
  refine ⟨ssD_sub, ?_⟩
  induction l with
  | nil => intro h; cases h
  | cons x l ih =>
    intro h
    rcases List.mem_cons.mp h with e | h
    · subst e
      exact insD_new fun z hz h1 h2 => hi y List.mem_cons_self z (List.mem_cons_of_mem _ (ssD_sub hz)) h1 h2
    · exact insD_old (ih (fun a ha b hb => hi a (List.mem_cons_of_mem _ ha) b (List.mem_cons_of_mem _ hb)) h)
def Asc (l : List D) : Prop := l.Pairwise fun a b => ltD a b = true
theorem insD_asc {x : D} : ∀ {l : List D}, Asc l → Asc (insD x l)
  | [], _ => by simp [insD, Asc]
  | z :: l, h => by
    have h0 := h
    unfold Asc at h
    rw [List.pairwise_cons] at h
    simp only [insD]
    split
    · rename_i h1
      unfold Asc
      rw [List.pairwise_cons]
      refine ⟨fun y hy => ?_, h0⟩
      rcases List.mem_cons.mp hy with e | hy
      · exact e ▸ h1
      · exact ltD_trans h1 (h.1 y hy)
    · split
      · rename_i h1 h2
        unfold Asc
        rw [List.pairwise_cons]
        refine ⟨fun y hy => ?_, insD_asc h.2⟩
        rcases insD_sub hy with e | hy
        · exact e ▸ h2
        · exact h.1 y hy
      · exact h0
theorem ssD_asc : ∀ l : List D, Asc (ssD l)
  | [] => List.Pairwise.nil
  | x :: l => insD_asc (ssD_asc l)
theorem asc_one : ∀ {a b : List D}, Asc a → Asc b → (∀ y, y ∈ a ↔ y ∈ b) → a = b
  | [], [], _, _, _ => rfl
  | [], y :: b, _, _, h => by have := (h y).mpr List.mem_cons_self; cases this
  | x :: a, [], _, _, h => by have := (h x).mp List.mem_cons_self; cases this
  | x :: a, y :: b, ha, hb, h => by
    unfold Asc at ha hb
    rw [List.pairwise_cons] at ha hb
    have e : x = y := by
      rcases List.mem_cons.mp ((h x).mp List.mem_cons_self) with e | h1
      · exact e
      · rcases List.mem_cons.mp ((h y).mpr List.mem_cons_self) with e | h2
        · exact e.symm
        · have := ltD_trans (ha.1 y h2) (hb.1 x h1)
          rw [ltD_irr] at this; cases this
    subst e
    rw [asc_one ha.2 hb.2 fun z => ⟨fun hz => ?_, fun hz => ?_⟩]
    · rcases List.mem_cons.mp ((h z).mp (List.mem_cons_of_mem _ hz)) with e | h1
      · have := ha.1 z hz; rw [e, ltD_irr] at this; cases this
      · exact h1
    · rcases List.mem_cons.mp ((h z).mpr (List.mem_cons_of_mem _ hz)) with e | h1
      · have := hb.1 z hz; rw [e, ltD_irr] at this; cases this
      · exact h1
theorem ssD_len : ∀ l : List D, (ssD l).length ≤ l.length
  | [] => Nat.le_refl _
  | x :: l => by
    have : ∀ l : List D, (insD x l).length ≤ l.length + 1 := by
      intro l
      induction l with
      | nil => simp [insD]
      | cons y l ih =>
        simp only [insD]
        split
        · simp
        · split
          · simpa using ih
          · simp
    simp only [ssD, List.length_cons]
    exact Nat.le_trans (this _) (Nat.succ_le_succ (ssD_len l))
/-- a sorted list of unlike things -/
theorem ssD_of {l zs : List D} (hi : InjT l) (hs : zs.Pairwise fun a b => ltD b a = false) (hn : zs.Nodup) (hm : ∀ y, y ∈ zs ↔ y ∈ l) : zs = ssD l := by
  refine asc_one ?_ (ssD_asc l) fun y => (hm y).trans (ssD_mem hi).symm
  unfold Asc
  induction zs generalizing l with
  | nil => exact List.Pairwise.nil
  | cons z zs ih =>
    rw [List.pairwise_cons] at hs ⊢
    rw [List.nodup_cons] at hn
    refine ⟨fun y hy => ?_, ih (l := zs) (fun a ha b hb => hi a ((hm a).mp (List.mem_cons_of_mem _ ha)) b ((hm b).mp (List.mem_cons_of_mem _ hb))) hs.2 hn.2 fun _ => Iff.rfl⟩
    cases e : ltD z y with
    | true => rfl
    | false =>
      have := hi z ((hm z).mp List.mem_cons_self) y ((hm y).mp (List.mem_cons_of_mem _ hy)) e (hs.1 y hy)
      subst this; exact absurd hy hn.1
/-! ### keys -/
def isI : D → Bool
  | .int _ => true
  | _ => false
def isT : D → Bool
  | .str _ => true
  | _ => false
def keysD : List D → Option (List Key)
  | [] => some []
  | d :: ds => match keyD d with
    | some k => (keysD ds).map (k :: ·)
    | none => none
theorem keysD_eq : ∀ {ds : List D} {ks : List Key}, keysD ds = some ks → ds = ks.map kD
  | [], ks, h => by simp only [keysD, Option.some.injEq] at h; subst h; rfl
  | d :: ds, ks, h => by
    simp only [keysD] at h
    cases e : keyD d with
    | none => rw [e] at h; cases h
    | some k =>
      rw [e] at h
      obtain ⟨ks', e2, rfl⟩ := Option.map_eq_some_iff.mp h
      rw [keysD_eq e2, kD_of e]; rfl
theorem repsK {K : PySem.W.Frag} {W : Wd G} {P : Hp} : ∀ ks : List Key, Reps K W P (ks.map kD) (ks.map kV)
  | [] => by simp [Reps]
  | k :: ks => by
    rw [List.map_cons, List.map_cons]
    simp only [Reps]
    refine ⟨_, _, rfl, ?_, repsK ks⟩
    cases k <;> simp [kD, kV]
theorem repsK_eq {K : PySem.W.Frag} {W : Wd G} {P : Hp} : ∀ {ks : List Key} {vs : List V}, Reps K W P (ks.map kD) vs → vs = ks.map kV
  | [], vs, h => by simp only [List.map_nil, Reps] at h; exact h
  | k :: ks, vs, h => by
    rw [List.map_cons] at h
    simp only [Reps] at h
    obtain ⟨v, r, rfl, h1, h2⟩ := h
    rw [repsK_eq h2, List.map_cons]
    cases k with
    | inl i => simp only [kD, rep_int] at h1; rw [h1]; rfl
    | inr i => simp only [kD, rep_str] at h1; rw [h1]; rfl
theorem kD_inj {a b : Key} (h : kD a = kD b) : a = b := by
  cases a <;> cases b <;> simp [kD] at h <;> rw [h]
theorem injT_keys (ks : List Key) : InjT (ks.map kD) := by
  intro a ha b hb h1 h2
  obtain ⟨j, _, rfl⟩ := List.mem_map.mp ha
  obtain ⟨k, _, rfl⟩ := List.mem_map.mp hb
  have := ltD_toks h1 h2
  cases j <;> cases k <;> simp only [kD, D.py, PySem.W.keyToks, List.cons.injEq, Sum.inl.injEq, Sum.inr.injEq, and_true, reduceCtorEq] at this
  · rw [this]
  · rw [PySem.W.str_of_cps this]
def okSS (ds : List D) : Bool := (ds.all isI || ds.all isT) && decide (ds.length < 64)
def opSS : D → Option S
  | .lst ds => if okSS ds = true then some (.ow (.lst (ssD ds))) else none
  | .tup ds => if okSS ds = true then some (.ow (.lst (ssD ds))) else none
  | _ => none
theorem keysD_ok : ∀ {ds : List D}, (ds.all isI = true ∨ ds.all isT = true) → ∃ ks, keysD ds = some ks
  | [], _ => ⟨[], rfl⟩
  | d :: ds, h => by
    obtain ⟨ks, e⟩ := keysD_ok (ds := ds) (by
      rcases h with h | h
      · rw [List.all_cons, Bool.and_eq_true] at h; exact .inl h.2
      · rw [List.all_cons, Bool.and_eq_true] at h; exact .inr h.2)
    rcases h with h | h
    · rw [List.all_cons, Bool.and_eq_true] at h
      cases d with
      | int i => exact ⟨.inl i :: ks, by simp [keysD, keyD, e]⟩
      | _ => cases h.1
    · rw [List.all_cons, Bool.and_eq_true] at h
      cases d with
      | str i => exact ⟨.inr i :: ks, by simp [keysD, keyD, e]⟩
      | _ => cases h.1
theorem alike_keys {ks : List Key} (h : (ks.map kD).all isI = true ∨ (ks.map kD).all isT = true) {js : List Key} (hj : ∀ k, k ∈ js → k ∈ ks) : PySem.W.AllAlike (js.map fun k => (kD k).py) ∧ PySem.W.Sortable (js.map fun k => (kD k).py) := by
  constructor
  · intro d hd e he
    obtain ⟨a, ha, rfl⟩ := List.mem_map.mp hd
    obtain ⟨b, hb, rfl⟩ := List.mem_map.mp he
    have xa := List.mem_map_of_mem (f := kD) (hj a ha)
    have xb := List.mem_map_of_mem (f := kD) (hj b hb)
    rcases h with h | h
    · have h1 := List.all_eq_true.mp h _ xa
      have h2 := List.all_eq_true.mp h _ xb
      cases a <;> cases b <;> simp [kD, isI] at h1 h2 <;> rfl
    · have h1 := List.all_eq_true.mp h _ xa
      have h2 := List.all_eq_true.mp h _ xb
      cases a <;> cases b <;> simp [kD, isT] at h1 h2 <;> rfl
  · right
    intro d hd
    obtain ⟨a, ha, rfl⟩ := List.mem_map.mp hd
    cases a with
    | inl i => exact ⟨fun q => by simp [kD, D.py] at q, fun xs q => by simp [kD, D.py] at q⟩
    | inr i => exact ⟨fun q => by simp [kD, D.py] at q, fun xs q => by simp [kD, D.py] at q⟩
theorem nodup_kD {js : List Key} (h : js.Nodup) : (js.map kD).Nodup := by
  unfold List.Nodup at h ⊢
  rw [List.pairwise_map]
  exact h.imp fun hne e => hne (kD_inj e)
theorem ss_keys {ks js : List Key} {zs' : List (V × PyData)} (hn : js.Nodup) (hm : ∀ k, k ∈ js ↔ k ∈ ks) (hp : zs'.Perm (js.map fun k => (kV k, (kD k).py))) : ∃ js' : List Key, ssD (ks.map kD) = js'.map kD ∧ (zs'.mergeSort (PySem.W.dataLe false (·.2))).map (·.1) = js'.map kV := by
  have hp2 := (List.mergeSort_perm zs' (PySem.W.dataLe false (·.2))).trans hp
  obtain ⟨js', pj, ej⟩ := perm_lift (fun k => (kV k, (kD k).py)) hp2 js rfl
  refine ⟨js', ?_, by rw [← ej, List.map_map]; rfl⟩
  have tot := PySem.W.sortLe_total (listOrd itemOrd) false fun b : V × PyData => PySem.W.keyToks b.2
  have srt : (zs'.mergeSort (PySem.W.dataLe false (·.2))).Pairwise fun a b => PySem.W.dataLe false (·.2) a b = true := List.pairwise_mergeSort (fun a b c h1 h2 => tot.trans a b c h1 h2) (fun a b => by rw [Bool.or_eq_true]; exact tot.total a b) _
  rw [← ej, List.pairwise_map] at srt
  refine (ssD_of (injT_keys ks) ?_ (nodup_kD (pj.nodup_iff.mpr hn)) fun y => ?_).symm
  · rw [List.pairwise_map]
    refine srt.imp fun {a b} h => ?_
    rw [PySem.W.dataLe_eq] at h
    simpa [ltD] using h
  · constructor
    · intro h
      obtain ⟨k, hk, rfl⟩ := List.mem_map.mp h
      exact List.mem_map_of_mem ((hm k).mp (pj.mem_iff.mp hk))
    · intro h
      obtain ⟨k, hk, rfl⟩ := List.mem_map.mp h
      exact List.mem_map_of_mem (pj.mem_iff.mpr ((hm k).mpr hk))
def rSS (w : World) (K : PySem.W.Frag) : V → Hp → VK → Prop := fun v H Q => DX.rSetK w K [v] H fun y H2 => DX.rSortO w K [y] H2 Q
theorem okSS_keys {ds : List D} (h : okSS ds = true) : ∃ ks : List Key, ds = ks.map kD ∧ ks.length < 64 ∧ ((ks.map kD).all isI = true ∨ (ks.map kD).all isT = true) := by
  simp only [okSS, Bool.and_eq_true, Bool.or_eq_true, decide_eq_true_eq] at h
  obtain ⟨ks, e⟩ := keysD_ok h.1
  have := keysD_eq e
  subst this
  exact ⟨ks, rfl, by simpa using h.2, h.1⟩
theorem b_ss {w : World} {K : PySem.W.Frag} {W : Wd G} : B1 K W (rSS w K) opSS := by
  intro P₀ H₀ P O σ st τ ts H g x dx z Q R rx h q
  have main : ∀ (ds : List D) (a : Addr) (xs : List V), okSS ds = true → z = .ow (.lst (ssD ds)) → (SqL K H a xs ∨ SqT K H a xs) → Reps K W P ds xs → x = .ref a → ds.length ≤ sizeLine → rSS w K x H Q := by
    intro ds a xs hk hz hs rs ex hzl
    obtain ⟨ks, rfl, h64, hal⟩ := okSS_keys hk
    have := repsK_eq rs; subst this
    subst ex
    refine ⟨a, ks, rfl, hs, h64, fun p js hp hn hm => ?_⟩
    have R2 := R.waste (o := DX.SetO w p (js.map kV)) hp
    obtain ⟨al, so⟩ := alike_keys hal (js := js) fun k hk => (hm k).mp hk
    refine ⟨p, js.map fun k => (kV k, (kD k).py), rfl, by rw [upd_same, List.map_map]; rfl, fun y hy => ?_, by rw [List.map_map]; exact al, by rw [List.map_map]; exact .inl so, fun y hy => ?_, fun q' zs' pz hq => ?_⟩
    · obtain ⟨k, _, rfl⟩ := List.mem_map.mp hy
      cases k with
      | inl i => simp only [kV, kD, D.py]; exact .int i
      | inr i => simp only [kV, kD, D.py]; exact .str i
    · obtain ⟨k, _, rfl⟩ := List.mem_map.mp hy
      cases k <;> simp [kD, D.py, PyData.depth]
    · obtain ⟨js', e1, e2⟩ := ss_keys hn hm pz
      rw [e2]
      refine q _ _ ?_
      rw [hz, e1]
      refine R2.newLst hq (repsK js') ?_
      rw [← e1]
      exact Nat.le_trans (ssD_len _) hzl
  cases dx with
  | lst ds =>
    simp only [opSS] at h
    split at h
    · rename_i hk
      cases h
      obtain ⟨a, xs, rfl, sq, hz, rs⟩ := rd1_lst.mp rx
      exact main ds a xs hk rfl (.inl (SqL.of sq)) rs rfl hz
    · cases h
  | tup ds =>
    simp only [opSS] at h
    split at h
    · rename_i hk
      cases h
      obtain ⟨a, xs, rfl, sq, hz, rs⟩ := rd1_tup.mp rx
      exact main ds a xs hk rfl (.inr (R.sub.sqT sq.sq)) rs rfl hz
    · cases h
  | _ => cases h
section
variable {C : CF} {Fam : Wd G → Prop} {a b c : Expr} {fa fb fc : M G S} {pos p pos2 p2 : Pos}
theorem d_ss (hm : C.mg "sorted" = none) (hm2 : C.mg "set" = none) (ha : DE C Fam a fa) (hg : ∀ j, Gl (C.X j) "sorted" := by intro _; rfl) (hg2 : ∀ j, Gl (C.X j) "set" := by intro _; rfl)
    (he : ∀ j, starEach [a] (C.X j).env = (false, eval a (C.X j).env) :: starEach [] (C.X j).env := by intro _; rfl) : DE C Fam (.Call (.Name "sorted" p) [.Call (.Name "set" p2) [a] [] pos2] [] pos) (mUn opSS fa) := by
  obtain ⟨ta, pa, ea⟩ := ha.ex
  refine ⟨tUn (rSS C.w C.K) ta, fun j => ?_, fun W h => ev_un (ea W h) b_ss⟩
  have hu := C.un j
  suffices inner : PE (C.X j) (.Call (.Name "set" p2) [a] [] pos2) (tCB (DX.rSetK C.w C.K) (tCons ta tNil)) by
    exact pe_callB (id := "sorted") (r := DX.rSortO C.w C.K) (by rw [← C.hK j, ← C.hw j]; exact DX.cr_sortO (C.calm j) (by omega)) (hg j) (by rw [C.hmg j]; exact hm) (by decide +kernel) (pa_cons inner pa_nil)
  exact pe_callTy (T := "set") (r := DX.rSetK C.w C.K) (by rw [← C.hK j, ← C.hw j]; exact DX.cr_setK (C.calm j) (by omega)) (hg2 j) (by rw [C.hmg j]; exact hm2) (by decide +kernel) (pa_cons (pa j) pa_nil (he j)) (he := he j)
end
end DL
namespace DY
open PySem PySem.Spec PyProof.Rows L2 AutoSeq1
theorem ext_tup (l : Addr) (items : Array Value) (n : Nat) (b : Addr) (items2 : Array Value) (n2 : Nat) (dd : Option Addr) (sl : Array (Option Value)) (hs0 : ¬(!items.isEmpty && Builtin.List.listTooLong (items.size + items2.size)) = true) (hs1 : items.size ≤ sizeLine) (hs2 : items.size + items2.size ≤ sizeLine + 1) :
    Meets (Builtin.«list.extend» ⟨[.ref l, .ref b], []⟩) (fun _ R s => s.heap.get? l = some { cls := .type "list", dict := none, data := .seq items n, slots := #[] } ∧ s.heap.get? b = some ⟨.type "tuple", dd, .seq items2 n2, sl⟩ ∧
      R (.ok (.ret Value.none)) { s with heap := s.heap.update l (Obj.mapSeq fun x => x ++ items2), toks := s.toks }) :=
  .of_wp fun prog w A R s h => by
    obtain ⟨hp, g, d, tk, os⟩ := s
    obtain ⟨hl, hb, h⟩ := h
    have f1 := idx_int
    have f2 := AutoSeq1.sub_tuple_tuple
    have f3 := AutoSeq1.sub_list_list
    have f4 := AutoSeq1.sub_tuple_list
    have f5 := AutoSeq1.sub_list_tuple
    have both : (items ++ items2).size ≤ sizeLine + 1 := by simpa using hs2
    wp_walk using (wpAny_updateSeq hl rfl (hz := hs1) (_hz' := both)), wpAny_loadPart' hl, wpAny_loadPart' hb
    exact ⟨_, rfl, h⟩
def rExtT (K : PySem.W.Frag) : V → List V → Hp → VK → Prop := fun x vs H Q => ∃ l b xs zs, x = .ref l ∧ vs = [.ref b] ∧ H l = some (.lst xs) ∧ SqT K H b zs ∧ xs.length + zs.length ≤ sizeLine ∧ Q .non (upd H l (.lst (xs ++ zs)))
theorem mt_extT {X : Cx} : MtR X "list.extend" (rExtT X.K) := by
  intro pins s σ H x vs v us Q I rx rv h
  obtain ⟨l, b, xs, zs, rfl, rfl, hH, hB, hz, q⟩ := h
  cases rx
  obtain ⟨u, rfl, ru⟩ := rv.one
  cases ru
  obtain ⟨z, its, n, r, hl, e⟩ := I.lstM hH
  obtain ⟨its2, r2, ⟨⟨cls, dd, data, sl⟩, ho, hc, n2, hd⟩, hl2⟩ := I.tuple hB
  simp only at hc hd
  subst hc hd
  have e2 := r2.length
  have few : its.toArray.size + its2.toArray.size ≤ sizeLine := by simp only [List.size_toArray]; omega
  have fits : ¬ (!its.toArray.isEmpty && Builtin.List.listTooLong (its.toArray.size + its2.toArray.size)) = true := by
    have nl := notLongL few
    rw [nl]; simp
  refine call_meets F.slot_list_extend ⟨_, e, rfl⟩ F.entry_list_extend (F.args_list_extend_2 _ _) (ext_tup l its.toArray n b its2.toArray n2 dd sl fits (by rw [List.size_toArray]; omega) (by omega)) ⟨e, ho, ?_⟩
  exact ⟨.non, _, I.lset (its' := its ++ its2) hH e (by simp) (r.append r2) (by rw [List.length_append]; omega), rfl, q⟩
end DY
namespace DL
open PySem PySem.Spec L2
variable {G : Type}
/-! ### slices -/
def EvO (K : PySem.W.Frag) (W : Wd G) (t : TO) (f : M G (Option Int)) : Prop :=
  ∀ (P₀ H₀ : Hp) (σ : L2.St) (st : Sl) (τ : List V) (ts : List S) (H : Hp) (g : G) (o : Option Int) (st' : Sl) (g' : G) (Q : Option Int → Hp → Prop),
    Rel K W P₀ H₀ σ st τ ts H g → f st g = some (o, st', g') → (∀ H', Rel K W P₀ H₀ σ st' τ ts H' g' → Q o H') → t σ H Q
structure DP (C : CF) (Fam : Wd G → Prop) (e : Option Expr) (f : M G (Option Int)) : Prop where
  ex : ∃ t, (∀ j, PO (C.X j) e t) ∧ ∀ W, Fam W → EvO C.K W t f
def mNoP : M G (Option Int) := fun st g => some (none, st, g)
def mPart (f : M G S) : M G (Option Int) := fun st g => bnd (f st g) fun x st g => match x with
  | .sh (.int i) => some (some i, st, g)
  | _ => none
def cutD (xs : List D) (lo hi : Option Int) : List D := (xs.drop (HT.sIx xs.length 0 lo)).take (HT.sIx xs.length xs.length hi - HT.sIx xs.length 0 lo)
theorem Reps.cut {K : PySem.W.Frag} {W : Wd G} {P : Hp} {ds : List D} {vs : List V} (r : Reps K W P ds vs) (lo hi : Option Int) : Reps K W P (cutD ds lo hi) (cutV vs lo hi) := by
  unfold cutD cutV
  rw [r.length]
  exact (r.drop _).take _
theorem cutD_len (xs : List D) (lo hi : Option Int) : (cutD xs lo hi).length ≤ xs.length := by
  unfold cutD
  rw [List.length_take, List.length_drop]; omega
def opSl : D → Option Int → Option Int → Option S
  | .tup ds, l, h => some (.sh (.tup (cutD ds l h)))
  | .lst ds, l, h => some (.ow (.lst (cutD ds l h)))
  | .str x, l, h => if x.length ≤ sizeLine then some (.sh (.str (cutS x l h))) else none
  | _, _, _ => none
def mSl (fa : M G S) (fl fh : M G (Option Int)) : M G S := fun st g =>
  bnd (fa st g) fun x st g => bnd (fl st g) fun l st g => bnd (fh st g) fun h st g => (peek x st).bind fun d => (opSl d l h).map fun z => (z, st, g)
section
variable {C : CF} {Fam : Wd G → Prop} {a b : Expr} {lo hi : Option Expr} {fa fb : M G S} {fl fh : M G (Option Int)} {pos p2 : Pos}
theorem p_none : DP C Fam none mNoP := ⟨_, fun _ => po_none, fun W hW P₀ H₀ σ st τ ts H g o st' g' Q R h q => by
  simp only [mNoP, Option.some.injEq, Prod.mk.injEq] at h; obtain ⟨rfl, rfl, rfl⟩ := h
  exact q H R⟩
theorem p_some (h : DE C Fam a fa) : DP C Fam (some a) (mPart fa) := by
  obtain ⟨ta, pa, ea⟩ := h.ex
  refine ⟨_, fun j => po_some (pa j), fun W hW P₀ H₀ σ st τ ts H g o st' g' Q R h q => ?_⟩
  obtain ⟨x, st1, g1, e1, h⟩ := bnd_eq h
  refine ea W hW _ _ _ _ _ _ _ _ _ _ _ _ R e1 fun v1 H1 R1 => ?_
  cases x with
  | sh d =>
    cases d with
    | int i =>
      simp only [Option.some.injEq, Prod.mk.injEq] at h; obtain ⟨rfl, rfl, rfl⟩ := h
      obtain ⟨P, O, R1⟩ := R1
      have hv : Rep C.K W P (.int i) v1 := R1.temps.1
      rw [rep_int] at hv
      exact ⟨i, hv, q H1 ⟨P, O, R1.pop⟩⟩
    | _ => cases h
  | _ => cases h
theorem d_sl (ha : DE C Fam a fa) (hl : DP C Fam lo fl) (hh : DP C Fam hi fh) : DE C Fam (.Subscript a (.Slice lo hi none p2) pos) (mSl fa fl fh) := by
  obtain ⟨ta, pa, ea⟩ := ha.ex
  obtain ⟨tl, pl, el⟩ := hl.ex
  obtain ⟨th, ph, eh⟩ := hh.ex
  refine ⟨_, fun j => pe_slice (((by rw [← C.hK j]; exact DY.sl_tupF : SlR (C.X j) (DY.rSlF C.K)).or (by rw [← C.hK j]; exact sl_list : SlR (C.X j) (rSlL C.K))).or sl_str) (pa j) (pl j) (ph j), fun W hW P₀ H₀ σ st τ ts H g z st' g' Q R h q => ?_⟩
  obtain ⟨x, st1, g1, e1, h⟩ := bnd_eq h
  obtain ⟨l, st2, g2, e2, h⟩ := bnd_eq h
  obtain ⟨u, st3, g3, e3, h⟩ := bnd_eq h
  obtain ⟨d, e4, h⟩ := Option.bind_eq_some_iff.mp h
  obtain ⟨z', e5, h⟩ := Option.map_eq_some_iff.mp h
  simp only [Prod.mk.injEq] at h; obtain ⟨rfl, rfl, rfl⟩ := h
  refine ea W hW _ _ _ _ _ _ _ _ _ _ _ _ R e1 fun v H1 R1 => ?_
  refine el W hW _ _ _ _ _ _ _ _ _ _ _ _ R1 e2 fun H2 R2 => ?_
  refine eh W hW _ _ _ _ _ _ _ _ _ _ _ _ R2 e3 fun H3 R3 => ?_
  obtain ⟨P, O, R3⟩ := R3
  have rv := R3.peekV e4
  have R4 := R3.pop
  cases d with
  | tup ds =>
    cases e5
    have rv0 := rv
    obtain ⟨pa, xs, rfl, sq, hz, rs⟩ := rd1_tup.mp rv
    refine .inl (.inl ⟨pa, xs, rfl, R4.sub.sqT sq.sq, fun hw => ?_, fun _ p ob hp hd => q _ _ (R4.newTup hp hd (rs.cut l u) (Nat.le_trans (cutD_len _ _ _) hz))⟩)
    have e : cutD ds l u = ds := by
      unfold cutD
      rw [← rs.length, hw.1, hw.2]
      simp [rs.length]
    rw [e] at q
    exact q _ _ (R4.ofSh rv0)
  | lst ds =>
    cases e5
    obtain ⟨pa, xs, rfl, sq, hz, rs⟩ := rd1_lst.mp rv
    exact .inl (.inr ⟨pa, xs, rfl, SqL.of sq, fun p hp => q _ _ (R4.newLst hp (rs.cut l u) (Nat.le_trans (cutD_len _ _ _) hz))⟩)
  | str y =>
    simp only [opSl] at e5
    split at e5
    · rename_i hz
      cases e5
      rw [rd1_str] at rv
      exact .inr ⟨y, rv, hz, q _ _ (R4.ofSh (by simp))⟩
    · cases e5
  | _ => cases e5
end
/-! ### {} -/
def mDNew : M G S := fun st g => some (.ow (.dct []), st, g)
section
variable {C : CF} {Fam : Wd G → Prop} {a b : Expr} {fa fb fk fv : M G S} {pos p1 p2 p3 : Pos}
theorem d_dnew : DE C Fam (.Dict [] [] pos) mDNew := ⟨_, fun _ => pe_dnewK, fun W hW P₀ H₀ σ st τ ts H g z st' g' Q R h q => by
  simp only [mDNew, Option.some.injEq, Prod.mk.injEq] at h; obtain ⟨rfl, rfl, rfl⟩ := h
  obtain ⟨P, O, R⟩ := R
  intro p hp
  obtain ⟨O', R2⟩ := R.laidOwn (d := .dct []) hp ⟨[], ⟨[], rfl, rfl⟩, by simp [Repk]⟩
  exact q _ _ ⟨P, O', R2⟩⟩
/-- a value that is no longer another slot's -/
def hold (s : S) (st : Sl) : Option (S × Sl) :=
  match s with
  | .sh d => some (.sh d, st)
  | .ow d => some (.ow d, st)
  | .at i => (take (.at i) st).map fun p => (.sh p.1, p.2)
  | .any => none
def mHold (f : M G S) : M G S := fun st g => bnd (f st g) fun x st g => (hold x st).map fun p => (p.1, p.2, g)
theorem hold_not {s s' : S} {st st' : Sl} (h : hold s st = some (s', st')) : (∀ j, s' ≠ .at j) ∧ s' ≠ .any := by
  cases s with
  | sh d => cases h; exact ⟨(fun j z => nomatch z), (fun z => nomatch z)⟩
  | ow d => cases h; exact ⟨(fun j z => nomatch z), (fun z => nomatch z)⟩
  | any => cases h
  | «at» i =>
    obtain ⟨p, _, e⟩ := Option.map_eq_some_iff.mp h
    cases e; exact ⟨(fun j z => nomatch z), (fun z => nomatch z)⟩
theorem EvE.hold {K : PySem.W.Frag} {W : Wd G} {t : TE} {f : M G S} (h : EvE K W t f) : EvE K W t (mHold f) := by
  intro P₀ H₀ σ st τ ts H g z st' g' Q R e q
  obtain ⟨x, st1, g1, e1, e⟩ := bnd_eq e
  obtain ⟨⟨y, st2⟩, e2, e⟩ := Option.map_eq_some_iff.mp e
  simp only [Prod.mk.injEq] at e; obtain ⟨rfl, rfl, rfl⟩ := e
  refine h _ _ _ _ _ _ _ _ _ _ _ _ R e1 fun v H1 R1 => q v H1 ?_
  cases x with
  | sh d => cases e2; exact R1
  | ow d => cases e2; exact R1
  | any => cases e2
  | «at» i =>
    obtain ⟨⟨d, st3⟩, e3, e4⟩ := Option.map_eq_some_iff.mp e2
    cases e4
    obtain ⟨P, O, R1⟩ := R1
    obtain ⟨P', O', R2⟩ := R1.takeV e3
    exact ⟨P', O', R2⟩
/-- x, y = a, b -/
def mPar (i j : Nat) (fa fb : M G S) : M G Fl := fun st g => bnd (mHold fa st g) fun x st g => bnd (mHold fb st g) fun y st g =>
  if i < st.length ∧ j < st.length then some (.nx, (st.set j (some y)).set i (some x), g) else none
theorem mHold_not {f : M G S} {st st' : Sl} {g g' : G} {s' : S} (h : mHold f st g = some (s', st', g')) : (∀ j, s' ≠ .at j) ∧ s' ≠ .any := by
  obtain ⟨x, st1, g1, e1, e⟩ := bnd_eq h
  obtain ⟨⟨y, st2⟩, e2, e⟩ := Option.map_eq_some_iff.mp e
  simp only [Prod.mk.injEq] at e; obtain ⟨rfl, rfl, rfl⟩ := e
  exact hold_not e2
theorem NoAt.cons {s : S} {ts : List S} (h : ∀ j, s ≠ .at j) (n : NoAt ts) : NoAt (s :: ts) := fun i z => by
  rcases List.mem_cons.mp z with e | z
  · exact h i e.symm
  · exact n i z
theorem par_core {K : PySem.W.Frag} {W : Wd G} {P₀ H₀ P H : Hp} {O : Addr → Option Tag} {σ : L2.St} {st : Sl} {τ : List V} {ts : List S} {g : G} {v u : V} {x y : S} {i j : Nat} (R : RelB K W P₀ H₀ P O σ st (u :: v :: τ) (y :: x :: ts) H g) (hij : i ≠ j) (n : NoAt ts)
    (hx : (∀ j, x ≠ .at j) ∧ x ≠ .any) (hy : (∀ j, y ≠ .at j) ∧ y ≠ .any) (hi : i < st.length) (hj : j < st.length) : Rel K W P₀ H₀ ((σ.set i (some v)).set j (some u)) ((st.set j (some y)).set i (some x)) τ ts H g := by
  obtain ⟨O1, R1⟩ := R.store (i := j) hy.1 hy.2 (n.cons hx.1) (by rw [← R.len]; exact hj)
  obtain ⟨O2, R2⟩ := R1.store (i := i) hx.1 hx.2 n (by rw [List.length_set, ← R.len]; exact hi)
  rw [List.set_comm _ _ hij.symm] at R2
  exact ⟨P, O2, R2⟩
theorem ev_par {K : PySem.W.Frag} {W : Wd G} {ta tb : TE} {i j : Nat} (ea : EvE K W ta fa) (eb : EvE K W tb fb) (hij : i ≠ j) : EvS K W (tPar i j (tCons ta (tCons tb tNil))) (mPar i j fa fb) := by
  intro P₀ H₀ σ st τ ts H g fl st' g' E n R h q
  obtain ⟨x, st1, g1, e1, h⟩ := bnd_eq h
  obtain ⟨y, st2, g2, e2, h⟩ := bnd_eq h
  split at h
  · rename_i hl
    simp only [Option.some.injEq, Prod.mk.injEq] at h; obtain ⟨rfl, rfl, rfl⟩ := h
    refine ea.hold _ _ _ _ _ _ _ _ _ _ _ _ R e1 fun v H1 R1 => ?_
    refine eb.hold _ _ _ _ _ _ _ _ _ _ _ _ R1 e2 fun u H2 R2 => ?_
    obtain ⟨P, O, R2⟩ := R2
    exact ⟨v, u, rfl, q _ _ (par_core R2 hij n (mHold_not e1) (mHold_not e2) hl.1 hl.2)⟩
  · cases h
/-- both names are plain locals -/
theorem d_par (i j : Nat) {x y : Str} {px py pt pt2 : Pos} {kt k2 : Nat} (ha : DE C Fam a fa) (hb : DE C Fam b fb) (hi : C.N[i]? = some x := by rfl) (hj : C.N[j]? = some y := by rfl) (hij : i ≠ j := by decide)
    (hx : ∀ j, (C.X j).env.scope.names.lookup x = some .local := by intro _; rfl) (hy : ∀ j, (C.X j).env.scope.names.lookup y = some .local := by intro _; rfl)
    (hw : ∀ j, swappedStores [.Tuple [.Name x px, .Name y py] kt pt] (.Tuple [a, b] k2 pt2) (C.X j).env = pure (some [x, y]) := by intro _; rfl) (hs : ∀ j, swapsWithSole [.Tuple [.Name x px, .Name y py] kt pt] (.Tuple [a, b] k2 pt2) pos.line (C.X j).env = pure false := by intro _; rfl)
    (he : ∀ j, starEach [a, b] (C.X j).env = (false, eval a (C.X j).env) :: starEach [b] (C.X j).env := by intro _; rfl) (he2 : ∀ j, starEach [b] (C.X j).env = (false, eval b (C.X j).env) :: starEach [] (C.X j).env := by intro _; rfl) :
    DS C Fam (.Assign [.Tuple [.Name x px, .Name y py] kt pt] (.Tuple [a, b] k2 pt2) pos) (mPar i j fa fb) := by
  obtain ⟨ta, pa, ea⟩ := ha.ex
  obtain ⟨tb, pb, eb⟩ := hb.ex
  exact ⟨_, fun l => ps_par (C.calm l) (C.nd' l) (by rw [C.hN l]; exact hi) (by rw [C.hN l]; exact hj) hij (hx l) (hy l) (pa_cons (pa l) (pa_cons (pb l) pa_nil (he2 l)) (he l)) (hw l) (hs l), fun W hW => ev_par (ea W hW) (eb W hW) hij⟩
/-- by a pair, as one name is a cell -/
theorem d_parT (i j : Nat) {x y : Str} {px py pt pt2 : Pos} {kt k2 : Nat} (ha : DE C Fam a fa) (hb : DE C Fam b fb) (hi : C.N[i]? = some x := by rfl) (hj : C.N[j]? = some y := by rfl) (hij : i ≠ j := by decide)
    (hx : ∀ j, Loc (C.X j).env.scope x := by intro _; first | exact Or.inl rfl | exact Or.inr rfl) (hy : ∀ j, Loc (C.X j).env.scope y := by intro _; first | exact Or.inl rfl | exact Or.inr rfl)
    (hfx : ∀ j, (C.X j).fn x = true ∨ (C.X j).env.scope.names.lookup x = some .local := by intro _; first | exact .inl rfl | exact .inr rfl) (hfy : ∀ j, (C.X j).fn y = true ∨ (C.X j).env.scope.names.lookup y = some .local := by intro _; first | exact .inl rfl | exact .inr rfl)
    (hs : ∀ j, swapsWithSole [.Tuple [.Name x px, .Name y py] kt pt] (.Tuple [a, b] k2 pt2) pos.line (C.X j).env = pure false := by intro _; rfl) (hw : ∀ j, swappedStores [.Tuple [.Name x px, .Name y py] kt pt] (.Tuple [a, b] k2 pt2) (C.X j).env = pure none := by intro _; rfl)
    (he : ∀ j, starEach [a, b] (C.X j).env = (false, eval a (C.X j).env) :: starEach [b] (C.X j).env := by intro _; rfl) (he2 : ∀ j, starEach [b] (C.X j).env = (false, eval b (C.X j).env) :: starEach [] (C.X j).env := by intro _; rfl) :
    DS C Fam (.Assign [.Tuple [.Name x px, .Name y py] kt pt] (.Tuple [a, b] k2 pt2) pos) (mPar i j fa fb) := by
  obtain ⟨ta, pa, ea⟩ := ha.ex
  obtain ⟨tb, pb, eb⟩ := hb.ex
  refine ⟨tAsg (tTup (tCons ta (tCons tb tNil))) (gTup C.K 2 (gCons (gName i) (gCons (gName j) gNil))), fun l => ?_, fun W hW => ?_⟩
  · refine ps_asg (pe_tup (pa_cons (pa l) (pa_cons (pb l) pa_nil (he2 l)) (he l))) ?_ (hs l) (hw l) rfl
    rw [← C.hK l]
    exact pg_tup (C.calm l) (pgs_cons (pg_name (C.nd' l) (by rw [C.hN l]; exact hi) (hx l) (hfx l)) (pgs_cons (pg_name (C.nd' l) (by rw [C.hN l]; exact hj) (hy l) (hfy l)) pgs_nil rfl) rfl) rfl rfl
  · intro P₀ H₀ σ st τ ts H g fl st' g' E n R h q
    obtain ⟨x, st1, g1, e1, h⟩ := bnd_eq h
    obtain ⟨y, st2, g2, e2, h⟩ := bnd_eq h
    split at h
    · rename_i hl
      simp only [Option.some.injEq, Prod.mk.injEq] at h; obtain ⟨rfl, rfl, rfl⟩ := h
      refine (ea W hW).hold _ _ _ _ _ _ _ _ _ _ _ _ R e1 fun v H1 R1 => ?_
      refine (eb W hW).hold _ _ _ _ _ _ _ _ _ _ _ _ R1 e2 fun u H2 R2 => ?_
      obtain ⟨P, O, R2⟩ := R2
      refine ⟨by rw [sizeLine_eq]; simp, fun p hp => ⟨p, [v, u], rfl, SqT.of upd_same, rfl, v, [u], rfl, u, [], rfl, rfl, ?_⟩⟩
      exact q _ _ (par_core (R2.waste hp) hij n (mHold_not e1) (mHold_not e2) hl.1 hl.2)
    · cases h
/-! ### d[k] = v, the dict being of slot i -/
def mAt (i : Nat) : M G S := fun st g => match st[i]? with
  | some (some (.ow _)) => some (.at i, st, g)
  | _ => none
theorem mAt_var {i : Nat} {st : Sl} {g : G} {r} (h : mAt i st g = some r) : mVar i st g = some r ∧ r.1 = .at i := by
  unfold mAt at h
  unfold mVar
  split at h
  · rename_i d e
    cases h
    simp [e]
  · cases h
def mDPut (i : Nat) (fk fv : M G S) : M G Fl := fun st g => bnd (mTake fv st g) fun dv st g => bnd (mAt i st g) fun _ st g => bnd (fk st g) fun k st g => (peek k st).bind fun dk =>
  match st[i]?, keyD dk with
  | some (some (.ow (.dct kvs))), some _ => if kvs.length < sizeLine then some (.nx, st.set i (some (.ow (.dct (dput kvs dk dv)))), g) else none
  | _, _ => none
theorem d_dput (i : Nat) {x : Str} (hv : DE C Fam b fv) (hk : DE C Fam a fk) (hN : C.N[i]? = some x := by rfl) (hvis : ∀ j, Vis (C.X j).env.scope x := by intro _; first | exact Or.inl rfl | exact Or.inr (Or.inl rfl) | exact Or.inr (Or.inr rfl)) (hd : (x == ("__debug__" : Str)) = false := by decide)
    (hcd : (x == ("__classdict__" : Str)) = false := by decide) (hs : ∀ j, swapsWith b (some (.Subscript (.Name x p1) a p2)) pos.line (C.X j).env = pure false := by intro _; rfl) : DS C Fam (.Assign [.Subscript (.Name x p1) a p2] b pos) (mDPut i fk fv) := by
  obtain ⟨ta, pa, ea⟩ := hk.ex
  obtain ⟨tb, pb, eb⟩ := hv.ex
  refine ⟨_, fun l => ps_dput (by have := C.un l; omega) (pe_var (i := i) (by rw [C.hN l]; exact hN) (hvis l) hd hcd) (pa l) (pb l) (hs l), fun W hW => ?_⟩
  intro P₀ H₀ σ st τ ts H g fl st' g' E n R h q
  obtain ⟨dv, st1, g1, e1, h⟩ := bnd_eq h
  obtain ⟨y, st2, g2, e2, h⟩ := bnd_eq h
  obtain ⟨k, st3, g3, e3, h⟩ := bnd_eq h
  obtain ⟨dk, e4, h⟩ := Option.bind_eq_some_iff.mp h
  obtain ⟨z, st0, e5, e6⟩ := mTake_eq e1
  refine eb W hW _ _ _ _ _ _ _ _ _ _ _ _ R e5 fun v H1 R1 => ?_
  obtain ⟨P, O, R1⟩ := R1
  obtain ⟨P', O', R1⟩ := R1.takeV e6
  refine ev_var i _ _ _ _ _ _ _ _ _ _ _ _ ⟨P', O', R1⟩ (mAt_var e2).1 fun u H2 R2 => ?_
  refine ea W hW _ _ _ _ _ _ _ _ _ _ _ _ R2 e3 fun kv H3 R3 => ?_
  obtain ⟨P, O, R3⟩ := R3
  cases hi : st3[i]? with
  | none => rw [hi] at h; cases h
  | some s =>
    rw [hi] at h
    cases s with
    | none => cases h
    | some s =>
      cases s with
      | ow d =>
        cases d with
        | dct kvs =>
          cases hkk : keyD dk with
          | none => rw [hkk] at h; cases h
          | some kk =>
            rw [hkk] at h
            simp only at h
            split at h
            · rename_i hlen
              simp only [Option.some.injEq, Prod.mk.injEq] at h; obtain ⟨rfl, rfl, rfl⟩ := h
              have rk := R3.peekV e4
              have ek := rd1_key hkk rk
              have hdk := kD_of hkk
              subst ek hdk
              have rv : Rep C.K W P dv v := R3.temps.2.2.1
              obtain ⟨w', ew, _, a', o, rfl, eO, eH, ks, ⟨ks', rfl, rfl⟩, rp⟩ := R3.slot hi
              have hu : u = .ref a' := by
                have hs : SOk C.K W P O H3 σ (.tmp (v :: τ).length) u y := R3.temps.2.1
                have hy : y = .at i := (mAt_var e2).2
                subst hy
                have : σ[i]? = some (some u) := hs
                rw [ew] at this; cases this; rfl
              subst hu
              have R4 := R3.pop.pop.pop.write (o := .dK []) hi ew (o' := .dK (putK ks' kk v)) (d' := .dct (dput kvs (kD kk) dv)) ⟨_, ⟨_, rfl, rfl⟩, rp.put rv kk⟩
              exact ⟨a', _, rfl, DPut.k eH (by have := rp.length; simp at this; omega), q _ _ ⟨P, O, R4⟩⟩
            · cases h
        | _ => cases h
      | _ => cases h
end
end DL
namespace DY
open PySem PySem.Spec PyProof.Rows L2
/-- dict(t), t a tuple of pairs -/
def rDictT (K : PySem.W.Frag) : List V → Hp → VK → Prop := fun xs H Q => ∃ (a : Addr) (ps : List Addr) (kvs : List (Key × V)), xs = [.ref a] ∧ TupP K H a (ps.map V.ref) ∧ Paired (fun p kv => SqT K H p [kV kv.1, kv.2]) ps kvs ∧
  ∀ p, H p = none → Q (.ref p) (upd H p (.dK (mergeK [] kvs)))
theorem refs_eq : ∀ {ps : List Addr} {us : List Value}, Vals (ps.map V.ref) us → us = ps.map Value.ref
  | [], _, .nil => rfl
  | p :: ps, _, .cons r t => by
    cases r
    rw [refs_eq t, List.map_cons]
theorem cr_dictT {X : Cx} (hcalm : X.calm = true) : CallR X (.type "dict") (rDictT X.K) := by
  intro pins s σ H xs us Q I r q
  obtain ⟨a, ps, kvs, rfl, hq, hp, q⟩ := q
  obtain rfl := Vals.ref1 r
  obtain ⟨its, rv, pl, hz⟩ := plain_of I hq
  have ei := refs_eq rv
  subst ei
  rw [List.length_map] at hz
  obtain ⟨prs, rel, hl, hpr⟩ := pairs_of I hp
  have hpr2 : ∀ j : Nat, ∃ u : Value, ∀ q' : Key × Value, prs[j]? = some q' → ∃ b, ps[j]? = some b ∧ IsTup s.heap b #[u, q'.2] ∧ keyIs q'.1 u = true := fun j => by
    cases e : prs[j]? with
    | none => exact ⟨.none, fun q' z => nomatch z⟩
    | some q' =>
      obtain ⟨b, u, e1, e2, e3⟩ := hpr j q' e
      exact ⟨u, fun q'' z => by cases z; exact ⟨b, e1, e2, e3⟩⟩
  obtain ⟨uk, huk⟩ := Classical.axiomOfChoice hpr2
  obtain ⟨prv, hprv⟩ : ∃ prv : List (Value × Value), prv.length = prs.length ∧ ∀ (j : Nat) k v, prv[j]? = some (k, v) → ∃ (q' : Key × Value) (b : Addr), prs[j]? = some q' ∧ ps[j]? = some b ∧ IsTup s.heap b #[k, v] ∧ v = q'.2 ∧ keyIs q'.1 k = true := by
    refine ⟨(List.range prs.length).map fun j => (uk j, ((prs[j]?).map (·.2)).getD .none), by simp, fun j k v e => ?_⟩
    rw [List.getElem?_map] at e
    obtain ⟨i, e1, e2⟩ := Option.map_eq_some_iff.mp e
    have hi := List.getElem?_eq_some_iff.mp e1
    obtain ⟨hlt, hji⟩ := hi
    rw [List.getElem_range] at hji
    subst hji
    rw [List.length_range] at hlt
    have e3 : prs[j]? = some prs[j] := List.getElem?_eq_getElem hlt
    simp only [Prod.mk.injEq, e3, Option.map_some, Option.getD_some] at e2
    obtain ⟨e4, e5⟩ := e2
    obtain ⟨b, h1, h2, h3⟩ := huk j _ e3
    rw [e4] at h2 h3
    exact ⟨_, b, e3, h1, by rw [← e5]; exact h2, e5.symm, h3⟩
  obtain ⟨hlen, hat⟩ := hprv
  refine PySem.call_dict_pairs (knd := mixKind X.prog X.w) (kvs := prs) (PairArg.tuple a (ps.map Value.ref).toArray (fun j => (ps[j]?).getD 0) prv) (I.ok.hd hcalm) ⟨pl, by simp [hlen, hl], fun j k v e => ?_⟩ ⟨hlen.symm, fun i key v e => ?_⟩ (by rw [hlen, hl]; exact hz) fun h' tk hd' k => ?_
  · obtain ⟨q', b, h1, h2, h3, h4, h5⟩ := hat j k v e
    refine ⟨by simp [h2], .inl ?_⟩
    show s.heap.IsTuple ((ps[j]?).getD 0) _
    rw [h2]
    exact h3
  · obtain ⟨q', b, h1, h2, h3, h4, h5⟩ := hat i key v e
    exact ⟨q'.1, by rw [h1, h4], h5⟩
  · have big : (s.heap.objs.size == sysModules) = false := beq_eq_false_iff_ne.mpr (Nat.ne_of_gt I.big)
    have few : (mergeK [] kvs).length ≤ sizeLine := by
      have h1 := length_mergeK kvs []
      have h2 := rel.length
      simp only [List.length_nil] at h1
      omega
    exact ⟨.ref s.heap.objs.size, _, I.laid (t' := tk) (fun b o e => k b o (fun hb => by cases hb) e) (Nat.le_refl _) (show ObjOk X.prog X.w _ _ _ (.dK (mergeK [] kvs)) from ⟨few, big, merged [] prs, KV.merge rel .nil, hd'⟩), rfl, q _ (I.hok.fresh (Nat.le_refl _))⟩
end DY
namespace DL
open PySem PySem.Spec PyProof.Rows L2
variable {G : Type}
/-! ### x.append(e), x.extend(e), x being the list of slot i -/
def opApp : D → D → Option D
  | .lst ds, d => if ds.length < sizeLine then some (.lst (ds ++ [d])) else none
  | _, _ => none
def opExt : D → D → Option D
  | .lst ds, .lst es => if ds.length + es.length ≤ sizeLine then some (.lst (ds ++ es)) else none
  | .lst ds, .tup es => if ds.length + es.length ≤ sizeLine then some (.lst (ds ++ es)) else none
  | _, _ => none
/-- what the method's rule asks, the own thing being at a -/
def BM (K : PySem.W.Frag) (W : Wd G) (T : String) (r : V → List V → Hp → VK → Prop) (op : D → D → Option D) : Prop :=
  ∀ (P H : Hp) (a : Addr) (o : HO) (e d e' : D) (v : V) (Q : VK), Sub P H → P a = none → H a = some o → Own K W P a o e → Rep K W P d v → op e d = some e' → (∀ o', Own K W P a o' e' → Q .non (upd H a o')) → r (.ref a) [v] H Q
section
variable {C : CF} {Fam : Wd G → Prop} {a b : Expr} {fa fb : M G S} {pos p1 p2 : Pos}
/-- a slot that holds an own list -/
def mAtL (i : Nat) : M G S := fun st g => match st[i]? with
  | some (some (.ow (.lst _))) => some (.at i, st, g)
  | _ => none
theorem mAtL_at {i : Nat} {st : Sl} {g : G} {r} (h : mAtL i st g = some r) : mVar i st g = some r ∧ r.1 = .at i ∧ r.2 = (st, g) ∧ ∃ ds, st[i]? = some (some (.ow (.lst ds))) := by
  unfold mAtL at h
  unfold mVar
  split at h
  · rename_i d e
    cases h
    exact ⟨by simp [e], rfl, rfl, d, e⟩
  · cases h
def mMethL (i : Nat) (op : D → D → Option D) (f : M G S) : M G S := fun st g => bnd (mAtL i st g) fun _ st g => bnd (mTake f st g) fun d st g =>
  match st[i]? with
  | some (some (.ow e)) => (op e d).map fun e' => (.sh .non, st.set i (some (.ow e')), g)
  | _ => none
theorem ev_methL {K : PySem.W.Frag} {W : Wd G} {r : V → List V → Hp → VK → Prop} {op : D → D → Option D} {ta : TE} {f : M G S} {i : Nat} (ea : EvE K W ta f) (hb : BM K W "list" r op) : EvE K W (tBM K "list" r (tVar i) (tCons ta tNil)) (mMethL i op f) := by
  intro P₀ H₀ σ st τ ts H g z st' g' Q R h q
  obtain ⟨y, st1, g1, e1, h1⟩ := bnd_eq h
  clear h
  obtain ⟨d, st2, g2, e2, h⟩ := bnd_eq h1
  clear h1
  obtain ⟨m1, m2, m3, ds0, m4⟩ := mAtL_at e1
  simp only at m2
  subst m2
  refine ev_var i _ _ _ _ _ _ _ _ _ _ _ _ R m1 fun u H1 R1 => ?_
  obtain ⟨x, st0, e3, e4⟩ := mTake_eq e2
  simp only [Prod.mk.injEq] at m3
  obtain ⟨rfl, rfl⟩ := m3
  have ty : tyV K "list" u H1 := by
    obtain ⟨P, O, R1⟩ := R1
    obtain ⟨w', ew, _, a', o, rfl, eO, eH, xs, rfl, _⟩ := R1.slot m4
    have : σ[i]? = some (some u) := R1.temps.1
    rw [ew] at this; cases this
    exact .inl ⟨rfl, xs, SqL.of eH⟩
  refine ⟨ty, ?_⟩
  refine ea _ _ _ _ _ _ _ _ _ _ _ _ R1 e3 fun v H2 R2 => ?_
  obtain ⟨P, O, R2⟩ := R2
  obtain ⟨P, O, R2⟩ := R2.takeV e4
  cases hi : st2[i]? with
  | none => rw [hi] at h; cases h
  | some s =>
    rw [hi] at h
    cases s with
    | none => cases h
    | some s =>
      cases s with
      | ow e =>
        obtain ⟨e', e5, h⟩ := Option.map_eq_some_iff.mp h
        simp only [Prod.mk.injEq] at h; obtain ⟨rfl, rfl, rfl⟩ := h
        obtain ⟨w', ew, _, a', o, rfl, eO, eH, ow⟩ := R2.slot hi
        have hu : σ[i]? = some (some u) := R2.temps.2.1
        rw [ew] at hu; cases hu
        refine hb P H2 a' o e d e' v Q R2.sub (R2.own a' _ eO).1 eH ow R2.temps.1 e5 fun o' ow' => ?_
        have R4 := R2.pop.pop.write (o := o) hi ew (o' := o') ow'
        exact q _ _ ⟨P, O, R4.push (by simp)⟩
      | _ => cases h
theorem bm_app {K : PySem.W.Frag} {W : Wd G} : BM K W "list" rAppend opApp := by
  intro P H a o e d e' v Q hs hp eH ow rv h q
  cases e with
  | lst ds =>
    simp only [opApp] at h
    split at h
    · rename_i hz
      cases h
      obtain ⟨xs, rfl, hz2, rs⟩ := ow
      exact ⟨a, xs, v, rfl, rfl, eH, by rw [rs.length]; exact hz, q _ ⟨_, rfl, by simp; omega, rs.append (Reps.one rv)⟩⟩
    · cases h
  | _ => cases h
theorem bm_ext {K : PySem.W.Frag} {W : Wd G} : BM K W "list" (fun x vs H Q => rExtend x vs H Q ∨ DY.rExtT K x vs H Q) opExt := by
  intro P H a o e d e' v Q hs hp eH ow rv h q
  cases e with
  | lst ds =>
    obtain ⟨xs, rfl, hz2, rs⟩ := ow
    cases d with
    | lst es =>
      simp only [opExt] at h
      split at h
      · rename_i hz
        cases h
        have rv : Rep K W P (.lst es) v := rv
        simp only [Rep] at rv
        obtain ⟨b, ys, rfl, eb, _, rs2⟩ := rv
        exact .inl ⟨a, b, xs, ys, rfl, rfl, eH, hs _ _ eb, by rw [rs.length, rs2.length]; exact hz, q _ ⟨_, rfl, by simpa using hz, rs.append rs2⟩⟩
      · cases h
    | tup es =>
      simp only [opExt] at h
      split at h
      · rename_i hz
        cases h
        obtain ⟨b, ys, rfl, sq, _, rs2⟩ := (rd1_tup (H := H)).mp rv
        exact .inr ⟨a, b, xs, ys, rfl, rfl, eH, hs.sqT sq.sq, by rw [rs.length, rs2.length]; exact hz, q _ ⟨_, rfl, by simpa using hz, rs.append rs2⟩⟩
      · cases h
    | _ => cases h
  | _ => cases h
theorem d_app (i : Nat) {x : Str} (ha : DE C Fam a fa) (hN : C.N[i]? = some x := by rfl) (hvis : ∀ j, Vis (C.X j).env.scope x := by intro _; first | exact Or.inl rfl | exact Or.inr (Or.inl rfl) | exact Or.inr (Or.inr rfl)) (hd : (x == ("__debug__" : Str)) = false := by decide)
    (hcd : (x == ("__classdict__" : Str)) = false := by decide) (hbase : ∀ j, attributeBase (.Name x p1) "append" (C.X j).env (eval (.Name x p1) (C.X j).env) = eval (.Name x p1) (C.X j).env := by intro _; rfl)
    (hfew : ∀ j, ((backTo pos (starEach [a] (C.X j).env)).all (fun x => !x.1) && (backToKw pos (keywordEach [] (C.X j).env)).all (fun x => x.1.isSome) && decide ([a].length + ([] : List Keyword).length + (if ([] : List Keyword).isEmpty then 0 else 1) < 30)) = true := by intro _; rfl)
    (hline : (p2.endLine == pos.line) = true := by rfl) (he : ∀ j, starEach [a] (C.X j).env = (false, eval a (C.X j).env) :: starEach [] (C.X j).env := by intro _; rfl) : DE C Fam (.Call (.Attribute (.Name x p1) "append" p2) [a] [] pos) (mMethL i opApp fa) := by
  obtain ⟨ta, pa, ea⟩ := ha.ex
  exact ⟨_, fun j => by rw [← C.hK j]; exact pe_bm PySem.F.plainAttrs_list PySem.F.slot_list_append PySem.F.type_list_append mt_append (pe_var (i := i) (by rw [C.hN j]; exact hN) (hvis j) hd hcd) (pa_cons (pa j) pa_nil (he j)) (hbase j) (hfew j) hline (he j), fun W hW => ev_methL (ea W hW) bm_app⟩
theorem d_ext (i : Nat) {x : Str} (ha : DE C Fam a fa) (hN : C.N[i]? = some x := by rfl) (hvis : ∀ j, Vis (C.X j).env.scope x := by intro _; first | exact Or.inl rfl | exact Or.inr (Or.inl rfl) | exact Or.inr (Or.inr rfl)) (hd : (x == ("__debug__" : Str)) = false := by decide)
    (hcd : (x == ("__classdict__" : Str)) = false := by decide) (hbase : ∀ j, attributeBase (.Name x p1) "extend" (C.X j).env (eval (.Name x p1) (C.X j).env) = eval (.Name x p1) (C.X j).env := by intro _; rfl)
    (hfew : ∀ j, ((backTo pos (starEach [a] (C.X j).env)).all (fun x => !x.1) && (backToKw pos (keywordEach [] (C.X j).env)).all (fun x => x.1.isSome) && decide ([a].length + ([] : List Keyword).length + (if ([] : List Keyword).isEmpty then 0 else 1) < 30)) = true := by intro _; rfl)
    (hline : (p2.endLine == pos.line) = true := by rfl) (he : ∀ j, starEach [a] (C.X j).env = (false, eval a (C.X j).env) :: starEach [] (C.X j).env := by intro _; rfl) : DE C Fam (.Call (.Attribute (.Name x p1) "extend" p2) [a] [] pos) (mMethL i opExt fa) := by
  obtain ⟨ta, pa, ea⟩ := ha.ex
  refine ⟨_, fun j => ?_, fun W hW => ev_methL (ea W hW) bm_ext⟩
  have hm : MtR (C.X j) "list.extend" (fun x vs H Q => rExtend x vs H Q ∨ DY.rExtT C.K x vs H Q) := fun pins s σ H x xs v us Q I rx rv h => by
    rcases h with h | h
    · exact mt_extend pins s σ H x xs v us Q I rx rv h
    · rw [← C.hK j] at h; exact DY.mt_extT pins s σ H x xs v us Q I rx rv h
  have := pe_bm (cpos := pos) (apos := p2) PySem.F.plainAttrs_list PySem.F.slot_list_extend PySem.F.type_list_extend hm (pe_var (i := i) (by rw [C.hN j]; exact hN) (hvis j) hd hcd) (pa_cons (pa j) pa_nil (he j)) (hbase j) (hfew j) hline (he j)
  rw [C.hK j] at this
  exact this
end
/-! ### sorted(d) -/
def leD (a b : D) : Bool := !ltD b a
def msD (l : List D) : List D := l.mergeSort leD
def textsD : List D → Option (List Str)
  | [] => some []
  | .str x :: ds => (textsD ds).map (x :: ·)
  | _ => none
def opSortD : D → Option S
  | .dct kvs => match textsD (kvs.map (·.1)) with
    | some ks => if ks.length < 64 then some (.ow (.lst (msD (kvs.map (·.1))))) else none
    | none => none
  | _ => none
theorem textsD_eq : ∀ {ds : List D} {ks : List Str}, textsD ds = some ks → ds = ks.map D.str
  | [], ks, h => by simp only [textsD, Option.some.injEq] at h; subst h; rfl
  | d :: ds, ks, h => by
    cases d with
    | str x =>
      simp only [textsD] at h
      obtain ⟨ks', e2, rfl⟩ := Option.map_eq_some_iff.mp h
      rw [textsD_eq e2]; rfl
    | _ => cases h
theorem leD_trans {a b c : D} (h : leD a b = true) (h2 : leD b c = true) : leD a c = true := by
  have tot := PySem.W.sortLe_total (listOrd itemOrd) false fun b : D => PySem.W.keyToks b.py
  exact tot.trans a b c h h2
theorem leD_total (a b : D) : (leD a b || leD b a) = true := by
  have tot := PySem.W.sortLe_total (listOrd itemOrd) false fun b : D => PySem.W.keyToks b.py
  rw [Bool.or_eq_true]; exact tot.total a b
theorem ltCps_lt : ∀ a b : List Nat, ltCps a b = decide (a < b)
  | [], [] => by simp [ltCps]
  | [], _ :: _ => by simp [ltCps]
  | _ :: _, [] => by simp [ltCps]
  | a :: r, b :: t => by
    simp only [ltCps, ltCps_lt r t, List.cons_lt_cons_iff]
    by_cases h1 : a < b <;> by_cases h2 : a = b <;> by_cases h3 : r < t <;> simp [h1, h2, h3]
theorem ltD_str (x y : Str) : ltD (.str x) (.str y) = ltCps x.cps.toList y.cps.toList := by
  unfold ltD PySem.W.dataLt
  simp only [D.py, PySem.W.keyToks]
  rw [ltCps_lt]
  by_cases e : x.cps.toList = y.cps.toList
  · rw [e, lex_irrefl]
    simp [List.lt_irrefl]
  · rw [lex_diff (O := itemOrd) (fun q => e (by simpa using q))]
    rfl
theorem rising_pw : ∀ (l : List Str) (p : Str), risingS p l = true → ((p :: l).map D.str).Pairwise fun a b => leD a b = true
  | [], p, _ => by simp
  | x :: r, p, h => by
    simp only [risingS, Bool.and_eq_true] at h
    have ih := rising_pw r x h.2
    rw [List.map_cons, List.pairwise_cons]
    refine ⟨fun y hy => ?_, ih⟩
    have hpx : leD (.str p) (.str x) = true := by unfold leD; rw [ltD_str]; exact h.1
    rw [List.map_cons] at hy ih
    rcases List.mem_cons.mp hy with e | hy
    · rw [e]; exact hpx
    · rw [List.pairwise_cons] at ih
      exact leD_trans hpx (ih.1 y hy)
theorem sortedS_pw {l : List Str} (h : sortedS l = true) : (l.map D.str).Pairwise fun a b => leD a b = true := by
  cases l with
  | nil => exact List.Pairwise.nil
  | cons x r => exact rising_pw r x h
theorem msD_pw (l : List D) : (msD l).Pairwise fun a b => leD a b = true := List.pairwise_mergeSort (le := leD) (fun a b c h1 h2 => leD_trans (a := a) (b := b) (c := c) h1 h2) leD_total l
theorem msD_one {l l' : List D} (hi : InjT l) (hs : l'.Pairwise fun a b => leD a b = true) (hp : l'.Perm l) : l' = msD l := by
  refine List.Perm.eq_of_pairwise (fun a b ha hb h1 h2 => ?_) hs (msD_pw l) (hp.trans (List.mergeSort_perm l leD).symm)
  have ha' : a ∈ l := hp.mem_iff.mp ha
  have hb' : b ∈ l := (List.mergeSort_perm l leD).mem_iff.mp hb
  unfold leD at h1 h2
  exact hi a ha' b hb' (by simpa using h2) (by simpa using h1)
theorem repsS {K : PySem.W.Frag} {W : Wd G} {P : Hp} : ∀ ks : List Str, Reps K W P (ks.map D.str) (ks.map V.str)
  | [] => by simp [Reps]
  | k :: ks => by
    rw [List.map_cons, List.map_cons]
    simp only [Reps]
    exact ⟨_, _, rfl, by simp, repsS ks⟩
theorem repk_keys {K : PySem.W.Frag} {W : Wd G} {P : Hp} : ∀ {kvs : List (D × D)} {ks : List (D × V)}, Repk K W P kvs ks → ks.map (·.1) = kvs.map (·.1)
  | [], ks, h => by simp only [Repk] at h; subst h; rfl
  | (k, d) :: kvs, ks, h => by
    simp only [Repk] at h
    obtain ⟨v, r, rfl, _, h2⟩ := h
    simp [repk_keys h2]
theorem inr_of : ∀ {ks : List Key} {ys : List Str}, ks.map kD = ys.map D.str → ks = ys.map Sum.inr
  | [], [], _ => rfl
  | [], _ :: _, h => by simp at h
  | _ :: _, [], h => by simp at h
  | k :: ks, y :: ys, h => by
    simp only [List.map_cons, List.cons.injEq] at h
    rw [List.map_cons, inr_of h.2]
    cases k with
    | inl i => simp [kD] at h
    | inr i => simp [kD] at h; rw [h.1]
theorem injT_strs (ks : List Str) : InjT (ks.map D.str) := by
  have := injT_keys (ks.map Sum.inr)
  rw [List.map_map] at this
  exact this
section
variable {C : CF} {Fam : Wd G → Prop} {a b : Expr} {fa fb : M G S} {pos p p1 p2 : Pos}
def rSortedD : List V → Hp → VK → Prop := fun xs H Q => ∃ (a : Addr) (kvs : List (Key × V)) (ks : List Str), xs = [.ref a] ∧ Rd H a (.dK kvs) ∧ kvs.map (·.1) = ks.map Sum.inr ∧ ks.length < 64 ∧
    ∀ ys p, ys.Perm ks → sortedS ys = true → H p = none → Q (.ref p) (upd H p (.lst (ys.map V.str)))
theorem b_sortD {K : PySem.W.Frag} {W : Wd G} : B1 K W (fun v => rSortedD [v]) opSortD := by
  intro P₀ H₀ P O σ st τ ts H g x dx z Q R rx h q
  cases dx with
  | dct kvs =>
    simp only [opSortD] at h
    cases e : textsD (kvs.map (·.1)) with
    | none => rw [e] at h; cases h
    | some ks =>
      rw [e] at h
      simp only at h
      split at h
      · rename_i h64
        cases h
        have ek := textsD_eq e
        obtain ⟨a, o, ks1, rfl, eH, ⟨ks', hdk0, rfl⟩, rp⟩ := rx
        have e2 := repk_keys rp
        rw [List.map_map] at e2
        have e3 : (ks'.map (·.1)).map kD = ks.map D.str := by rw [List.map_map, ← ek, ← e2]; rfl
        refine ⟨a, ks', ks, rfl, hdk0.rd eH, inr_of e3, h64, fun ys p hp hs hn => ?_⟩
        have em : ys.map D.str = msD (kvs.map (·.1)) := by
          rw [ek]
          exact msD_one (injT_strs ks) (sortedS_pw hs) (hp.map _)
        refine q _ _ ?_
        rw [← em]
        refine R.newLst hn (repsS ys) ?_
        rw [List.length_map, hp.length_eq, sizeLine_eq]; omega
      · cases h
  | _ => cases h
theorem d_sortD (hm : C.mg "sorted" = none) (ha : DE C Fam a fa) (hg : ∀ j, Gl (C.X j) "sorted" := by intro _; rfl) (he : ∀ j, starEach [a] (C.X j).env = (false, eval a (C.X j).env) :: starEach [] (C.X j).env := by intro _; rfl) : DE C Fam (.Call (.Name "sorted" p) [a] [] pos) (mUn opSortD fa) :=
  d_cb (r := rSortedD) (fun j => call_sortedD (C.calm j)) (fun W _ => b_sortD) (by decide +kernel) hm ha hg (he := he)
end
/-! ### dict(pairs) -/
def pairsD : List D → Option (List (D × D))
  | [] => some []
  | .tup [k, v] :: ds => match keyD k with
    | some _ => (pairsD ds).map ((k, v) :: ·)
    | none => none
  | _ => none
def mergeD (kvs : List (D × D)) : List (D × D) := kvs.foldl (fun acc p => dput acc p.1 p.2) []
def opDict : D → Option S
  | .tup ds => (pairsD ds).map fun ps => .ow (.dct (mergeD ps))
  | .lst ds => (pairsD ds).map fun ps => .ow (.dct (mergeD ps))
  | .dct kvs => some (.ow (.dct kvs))
  | _ => none
theorem merge_rep {K : PySem.W.Frag} {W : Wd G} {P : Hp} : ∀ {ps : List (D × D)} {kvs : List (Key × V)} {acc : List (D × D)} {ac : List (Key × V)}, Repk K W P ps (kvs.map fun p => (kD p.1, p.2)) → Repk K W P acc (ac.map fun p => (kD p.1, p.2)) →
    Repk K W P (ps.foldl (fun acc p => dput acc p.1 p.2) acc) ((mergeK ac kvs).map fun p => (kD p.1, p.2))
  | [], kvs, acc, ac, h, h2 => by
    cases kvs with
    | nil => exact h2
    | cons k kvs => simp [Repk] at h
  | (k, d) :: ps, kvs, acc, ac, h, h2 => by
    cases kvs with
    | nil => simp [Repk] at h
    | cons kv kvs =>
      rw [List.map_cons] at h
      simp only [Repk] at h
      obtain ⟨v, r, e, hr, hr2⟩ := h
      simp only [List.cons.injEq, Prod.mk.injEq] at e
      obtain ⟨⟨e1, e2⟩, e3⟩ := e
      subst e1 e2 e3
      have := merge_rep (ps := ps) (kvs := kvs) hr2 (Repk.put hr kv.1 h2)
      exact this
theorem pairs_rep {K : PySem.W.Frag} {W : Wd G} {P H : Hp} (hs : Sub P H) : ∀ {ds : List D} {ps : List (D × D)} {xs : List V}, pairsD ds = some ps → Reps K W P ds xs → ∃ (as : List Addr) (kvs : List (Key × V)), xs = as.map V.ref ∧ Paired (fun p kv => SqT K H p [kV kv.1, kv.2]) as kvs ∧ Repk K W P ps (kvs.map fun p => (kD p.1, p.2))
  | [], ps, xs, h, r => by
    simp only [pairsD, Option.some.injEq] at h; subst h
    simp only [Reps] at r; subst r
    exact ⟨[], [], rfl, .nil, by simp [Repk]⟩
  | d :: ds, ps, xs, h, r => by
    simp only [Reps] at r
    obtain ⟨v, r', rfl, h1, h2⟩ := r
    match d, h, h1 with
    | .tup [k, dv], h, h1 =>
      simp only [pairsD] at h
      cases hk : keyD k with
      | none => rw [hk] at h; cases h
      | some kk =>
        rw [hk] at h
        obtain ⟨ps', e, rfl⟩ := Option.map_eq_some_iff.mp h
        obtain ⟨as, kvs, rfl, pr, rk⟩ := pairs_rep hs e h2
        simp only [Rep, Reps] at h1
        obtain ⟨a, xs', rfl, sq, _, v1, r1, rfl, q1, v2, r2, rfl, q2, rfl⟩ := h1
        have e1 := rep_key hk q1
        subst e1
        refine ⟨a :: as, (kk, v2) :: kvs, rfl, .cons (hs.sqT sq.sq) pr, ?_⟩
        rw [List.map_cons]
        simp only [Repk]
        exact ⟨v2, _, by rw [kD_of hk], q2, rk⟩
section
variable {C : CF} {Fam : Wd G → Prop} {a b : Expr} {fa fb : M G S} {pos p p1 p2 : Pos}
theorem d_dict (hm : C.mg "dict" = none) (ha : DE C Fam a fa) (hg : ∀ j, Gl (C.X j) "dict" := by intro _; rfl) (he : ∀ j, starEach [a] (C.X j).env = (false, eval a (C.X j).env) :: starEach [] (C.X j).env := by intro _; rfl) : DE C Fam (.Call (.Name "dict" p) [a] [] pos) (mUn opDict fa) :=
  d_ct (fun j => (by have := DY.cr_dictT (X := C.X j) (C.calm j); rw [C.hK j] at this; exact this : CallR (C.X j) (.type "dict") (DY.rDictT C.K)).or ((by have := call_dictP (X := C.X j) (C.calm j); rw [C.hK j] at this; exact this : CallR (C.X j) (.type "dict") _).or (call_dictD (X := C.X j)))) (fun W _ => by
    intro P₀ H₀ P O σ st τ ts H g x dx z Q R rx h q
    cases dx with
    | tup ds =>
      obtain ⟨ps, e, rfl⟩ := Option.map_eq_some_iff.mp h
      obtain ⟨a, xs, rfl, sq, hz, rs⟩ := rd1_tup.mp rx
      obtain ⟨as, kvs, rfl, pr, rk⟩ := pairs_rep R.sub e rs
      refine .inl ⟨a, as, kvs, rfl, sq.mono R.sub, pr, fun p hp => ?_⟩
      obtain ⟨O', R2⟩ := R.laidOwn (d := .dct (mergeD ps)) hp ⟨_, ⟨_, rfl, rfl⟩, merge_rep rk (acc := []) (ac := []) (by simp [Repk])⟩
      exact q _ _ ⟨P, O', R2⟩
    | lst ds =>
      obtain ⟨ps, e, rfl⟩ := Option.map_eq_some_iff.mp h
      obtain ⟨a, xs, rfl, sq, hz, rs⟩ := rd1_lst.mp rx
      obtain ⟨as, kvs, rfl, pr, rk⟩ := pairs_rep R.sub e rs
      refine .inr (.inl ⟨a, as, kvs, rfl, SqL.of sq, pr, fun p hp => ?_⟩)
      obtain ⟨O', R2⟩ := R.laidOwn (d := .dct (mergeD ps)) hp ⟨_, ⟨_, rfl, rfl⟩, merge_rep rk (acc := []) (ac := []) (by simp [Repk])⟩
      exact q _ _ ⟨P, O', R2⟩
    | dct kvs =>
      simp only [opDict, Option.some.injEq] at h; subst h
      simp only [Rd1] at rx
      obtain ⟨a, o, ks, rfl, eo, ⟨kk, hk, rfl⟩, rk⟩ := rx
      refine .inr (.inr ⟨a, kk, rfl, hk.rd eo, fun p hp => ?_⟩)
      obtain ⟨O', R2⟩ := R.laidOwn (d := .dct kvs) hp ⟨_, ⟨_, rfl, rfl⟩, rk⟩
      exact q _ _ ⟨P, O', R2⟩
    | _ => cases h) (by decide +kernel) hm ha hg (he := he)
end
end DL
namespace DL
open PySem PySem.Spec PyProof.Rows L2
variable {G : Type}
/-! ### t[::s] -/
/-! ### names of the module -/
def GC (K : PySem.W.Frag) (mg : Str → Option Value) (x : Str) (d : D) : Prop := ∃ u v, mg x = some u ∧ RelV v u ∧ ∀ (G : Type) (W : Wd G) (P : Hp), Rep K W P d v
theorem GC.int {K : PySem.W.Frag} {mg : Str → Option Value} {x : Str} {i : Int} {t : Tok} (h : mg x = some (.int i t)) : GC K mg x (.int i) := ⟨_, .int i, h, ⟨t, rfl⟩, fun G W P => by simp⟩
theorem GC.str {K : PySem.W.Frag} {mg : Str → Option Value} {x : Str} {i : Str} {t : Tok} (h : mg x = some (.str i t)) : GC K mg x (.str i) := ⟨_, .str i, h, ⟨t, rfl⟩, fun G W P => by simp⟩
/-! ### the shared things change -/
theorem RelB.world {K : PySem.W.Frag} {W : Wd G} {P₀ H₀ P H H' : Hp} {O : Addr → Option Tag} {σ : L2.St} {st : Sl} {τ : List V} {ts : List S} {g g' : G} (R : RelB K W P₀ H₀ P O σ st τ ts H g) (hH : ∀ a, ¬ W.fp a → H' a = H a) (hw : W.holds g' H') : RelB K W P₀ H₀ P O σ st τ ts H' g' := by
  have oe : ∀ a t, O a = some t → H' a = H a := fun a t h => hH a (R.own a t h).2.2.1
  refine ⟨fun a o h => ?_, fun a o h n => ?_, R.p0, R.new, R.nfp, fun a t h => ?_, hw, R.len, fun i s h => ?_, ?_⟩
  · rw [hH a (R.nfp a (by rw [h]; simp))]; exact R.sub a o h
  · rw [hH a n]; exact R.base a o h n
  · obtain ⟨h1, h2, h3, h4⟩ := R.own a t h
    exact ⟨h1, h2, h3, by rw [oe a t h]; exact h4⟩
  · obtain ⟨v, e1, e2, q⟩ := R.slots i s h
    exact ⟨v, e1, e2, q.mono (Sub.refl P) (fun _ z => z) fun a o z y => by rw [oe a _ z]; exact y⟩
  · exact R.temps.mono (Sub.refl P) (fun _ _ _ z => z) fun a o k _ z y => by rw [oe a _ z]; exact y
/-- read an object of the world -/
def peekW (rd : G → Nat → Option D) (s : S) (st : Sl) (g : G) : Option D :=
  match s with
  | .sh (.obj n) => rd g n
  | s => peek s st
def RdW (K : PySem.W.Frag) (Fam : Wd G → Prop) (rd : G → Nat → Option D) : Prop := ∀ W, Fam W → ∀ (P H : Hp) (g : G) n d, W.holds g H → rd g n = some d → Rd1 K W P H d (W.ref n)
theorem RelB.peekW {K : PySem.W.Frag} {Fam : Wd G → Prop} {rd : G → Nat → Option D} (hr : RdW K Fam rd) {W : Wd G} (hW : Fam W) {P₀ H₀ P H : Hp} {O : Addr → Option Tag} {σ : L2.St} {st : Sl} {τ : List V} {ts : List S} {g : G} {v : V} {s : S} {d : D} (R : RelB K W P₀ H₀ P O σ st (v :: τ) (s :: ts) H g) (h : DL.peekW rd s st g = some d) : Rd1 K W P H d v := by
  by_cases hs : ∃ n, s = .sh (.obj n)
  · obtain ⟨n, rfl⟩ := hs
    have hv : Rep K W P (.obj n) v := R.temps.1
    simp only [Rep] at hv
    subst hv
    exact hr W hW P H g n d R.wld h
  · have : DL.peekW rd s st g = peek s st := by
      unfold DL.peekW
      split
      · rename_i n; exact absurd ⟨n, rfl⟩ hs
      · rfl
    rw [this] at h
    exact R.peekV h
def mOpW (rd : G → Nat → Option D) (op : D → D → Option S) (fa fb : M G S) : M G S := fun st g =>
  bnd (fa st g) fun x st g => bnd (fb st g) fun y st g => (peekW rd x st g).bind fun dx => (peekW rd y st g).bind fun dy => (op dx dy).map fun z => (z, st, g)
def mUnW (rd : G → Nat → Option D) (op : D → Option S) (fa : M G S) : M G S := fun st g =>
  bnd (fa st g) fun x st g => (peekW rd x st g).bind fun dx => (op dx).map fun z => (z, st, g)
theorem ev_opW {K : PySem.W.Frag} {Fam : Wd G → Prop} {rd : G → Nat → Option D} (hr : RdW K Fam rd) {W : Wd G} (hW : Fam W) {ta tb : TE} {fa fb : M G S} {r : R2} {op : D → D → Option S} (ha : EvE K W ta fa) (hb : EvE K W tb fb) (ho : B2 K W r op) : EvE K W (tOp r ta tb) (mOpW rd op fa fb) := by
  intro P₀ H₀ σ st τ ts H g z st' g' Q R h q
  obtain ⟨x, st1, g1, e1, h⟩ := bnd_eq h
  obtain ⟨y, st2, g2, e2, h⟩ := bnd_eq h
  obtain ⟨dx, e3, h⟩ := Option.bind_eq_some_iff.mp h
  obtain ⟨dy, e4, h⟩ := Option.bind_eq_some_iff.mp h
  obtain ⟨z', e5, h⟩ := Option.map_eq_some_iff.mp h
  simp only [Prod.mk.injEq] at h; obtain ⟨rfl, rfl, rfl⟩ := h
  refine ha _ _ _ _ _ _ _ _ _ _ _ _ R e1 fun v1 H1 R1 => ?_
  refine hb _ _ _ _ _ _ _ _ _ _ _ _ R1 e2 fun v2 H2 R2 => ?_
  obtain ⟨P, O, R2⟩ := R2
  exact ho _ _ _ _ _ _ _ _ _ _ _ _ _ _ _ _ R2.pop.pop (RelB.peekW hr hW R2.pop e3) (RelB.peekW hr hW R2 e4) e5 q
theorem ev_unW {K : PySem.W.Frag} {Fam : Wd G → Prop} {rd : G → Nat → Option D} (hr : RdW K Fam rd) {W : Wd G} (hW : Fam W) {ta : TE} {fa : M G S} {r : V → Hp → VK → Prop} {op : D → Option S} (ha : EvE K W ta fa) (ho : B1 K W r op) : EvE K W (tUn r ta) (mUnW rd op fa) := by
  intro P₀ H₀ σ st τ ts H g z st' g' Q R h q
  obtain ⟨x, st1, g1, e1, h⟩ := bnd_eq h
  obtain ⟨dx, e3, h⟩ := Option.bind_eq_some_iff.mp h
  obtain ⟨z', e5, h⟩ := Option.map_eq_some_iff.mp h
  simp only [Prod.mk.injEq] at h; obtain ⟨rfl, rfl, rfl⟩ := h
  refine ha _ _ _ _ _ _ _ _ _ _ _ _ R e1 fun v1 H1 R1 => ?_
  obtain ⟨P, O, R1⟩ := R1
  exact ho _ _ _ _ _ _ _ _ _ _ _ _ _ _ R1.pop (RelB.peekW hr hW R1 e3) e5 q
def opIxL : D → D → Option S
  | .lst ds, .int i => (atI ds i).map S.sh
  | _, _ => none
theorem b_ixL {K : PySem.W.Frag} {W : Wd G} : B2 K W (rIx K) opIxL := by
  intro P₀ H₀ P O σ st τ ts H g x y dx dy z Q R rx ry h q
  cases dx with
  | lst ds =>
    cases dy with
    | int i =>
      rw [rd1_int] at ry
      obtain ⟨a, xs, rfl, sq, hz, rs⟩ := rd1_lst.mp rx
      obtain ⟨d, e6, rfl⟩ := Option.map_eq_some_iff.mp h
      obtain ⟨v, e7, rv⟩ := atI_rep rs e6
      exact .inl ⟨a, xs, i, v, rfl, ry, SqL.of sq, e7, q _ _ (R.ofSh rv)⟩
    | _ => cases h
  | _ => cases dy <;> cases h
section
variable {C : CF} {Fam : Wd G → Prop} {rd : G → Nat → Option D} {a b e : Expr} {fa fb f : M G S} {pos p p1 p2 : Pos}
theorem d_subW (hr : RdW C.K Fam rd) (ha : DE C Fam a fa) (hb : DE C Fam b fb) (hs : PlainIx b := by exact fun _ _ => rfl) : DE C Fam (.Subscript a b pos) (mOpW rd opIxL fa fb) := by
  obtain ⟨ta, pa, ea⟩ := ha.ex
  obtain ⟨tb, pb, eb⟩ := hb.ex
  exact ⟨_, fun j => by rw [← C.hK j]; exact pe_ix ix_seq (pa j) (pb j) hs, fun W h => ev_opW hr h (ea W h) (eb W h) b_ixL⟩
theorem t_neW (hr : RdW C.K Fam rd) (ha : DE C Fam a fa) (hb : DE C Fam b fb) : DT C Fam (.Compare a [.NotEq] [b] pos) (mTest (mOpW rd opNe fa fb)) := by
  obtain ⟨ta, pa, ea⟩ := ha.ex
  obtain ⟨tb, pb, eb⟩ := hb.ex
  exact ⟨_, fun j => pt_cmpR (by rw [← C.hK j]; exact op_neP (by have := C.un j; omega)) (pa j) (pb j) (nobehind _ (by decide) (by decide)), fun W h => ev_test (ev_opW hr h (ea W h) (eb W h) b_ne)⟩
theorem d_lenW (hr : RdW C.K Fam rd) (hm : C.mg "len" = none) (ha : DE C Fam a fa) (hg : ∀ j, Gl (C.X j) "len" := by intro _; rfl) (he : ∀ j, starEach [a] (C.X j).env = (false, eval a (C.X j).env) :: starEach [] (C.X j).env := by intro _; rfl) : DE C Fam (.Call (.Name "len" p) [a] [] pos) (mUnW rd opLen fa) := by
  obtain ⟨ta, pa, ea⟩ := ha.ex
  exact ⟨tUn (fun v => rLen C.K [v]) ta, fun j => pe_callB (r := rLen C.K) (by rw [← C.hK j]; exact call_len.or call_lenR) (hg j) (by rw [C.hmg j]; exact hm) boot_len (pa_cons (pa j) pa_nil (he j)) (he := he j), fun W h => ev_unW hr h (ea W h) b_len⟩
end
end DL
namespace DL
open PySem PySem.Spec PyProof.Rows L2
variable {G : Type}
/-! ### repr -/
def rRepr (K : PySem.W.Frag) : List V → Hp → VK → Prop := fun vs H Q => ∃ v d, vs = [v] ∧ Dp K H v d ∧ d.showable = true ∧ d.hasDict = false ∧ d.depth ≤ 100 ∧ d.shown.length ≤ sizeLine ∧ Q (.str d.shown) H
theorem cr_repr {X : Cx} (hg : X.A.guards = some []) (hu : X.A.units + 150 < cLine) : CallR X (.builtin "repr") (rRepr X.K) := by
  intro pins s σ H vs us Q I rv h
  obtain ⟨v, d, rfl, hd, hs, hn, hz, hl, q⟩ := h
  obtain ⟨u, rfl, ru⟩ := vals1 rv
  obtain ⟨as, r⟩ := Dp.reads I d v u hd ru
  cases r with
  | none => exact PySem.P.repr_of_none ⟨.str _, H, I.tok _, ⟨_, rfl⟩, q⟩
  | bool b => exact PySem.P.repr_of_bool ⟨.str _, H, I.tok _, ⟨_, by cases b <;> rfl⟩, q⟩
  | int n t => exact PySem.P.repr_of_int (by simpa [PyData.showable] using hs) ⟨.str _, H, I.tok _, ⟨_, rfl⟩, q⟩
  | str x t => exact PySem.P.repr_of_str ⟨.str _, H, I.tok _, ⟨_, rfl⟩, q⟩ hl
  | list h1 h2 h3 h4 => exact repr_of_reads' (.list h1 h2 h3 h4) hs (PySem.PyData.noDict_hsm hn) hg (by omega) (fun _ _ e => e) (fun h' u tk k => ⟨.str _, H, I.kept k, ⟨_, rfl⟩, q⟩) hl
  | tuple h1 h2 h3 h4 => exact repr_of_reads' (.tuple h1 h2 h3 h4) hs (PySem.PyData.noDict_hsm hn) hg (by omega) (fun _ _ e => e) (fun h' u tk k => ⟨.str _, H, I.kept k, ⟨_, rfl⟩, q⟩) hl
  | dict h1 h2 h3 h4 h5 => simp [PyData.hasDict] at hn
mutual
theorem D.noDict : ∀ d : D, d.py.hasDict = false
  | .non => rfl
  | .bl _ => rfl
  | .int _ => rfl
  | .str _ => rfl
  | .tup xs => by simp only [D.py, PyData.hasDict]; exact D.noDicts xs
  | .lst xs => by simp only [D.py, PyData.hasDict]; exact D.noDicts xs
  | .dct _ => rfl
  | .dcn _ => rfl
  | .obj _ => rfl
theorem D.noDicts : ∀ ds : List D, PyData.hasDictAll (D.pys ds) = false
  | [] => rfl
  | d :: ds => by simp only [D.pys, PyData.hasDictAll, D.noDict d, D.noDicts ds, Bool.or_self]
end
def okRepr (d : D) : Bool := d.pl && d.py.showable && decide (d.py.depth ≤ 100) && decide (d.py.shown.length ≤ sizeLine)
def opRepr (d : D) : Option S := if okRepr d = true then some (.sh (.str d.py.shown)) else none
theorem b_repr {K : PySem.W.Frag} {W : Wd G} : B1 K W (fun v => rRepr K [v]) opRepr := by
  intro P₀ H₀ P O σ st τ ts H g x dx z Q R rx h q
  unfold opRepr at h
  split at h
  · rename_i hc
    cases h
    simp only [okRepr, Bool.and_eq_true, decide_eq_true_eq] at hc
    exact ⟨x, dx.py, rfl, rx.dp R.sub hc.1.1.1, hc.1.1.2, D.noDict dx, hc.1.2, hc.2, q _ _ (R.ofSh (by simp))⟩
  · cases h
section
variable {C : CF} {Fam : Wd G → Prop} {a b c : Expr} {fa fb fc : M G S} {pos p p2 : Pos}
theorem d_repr (hm : C.mg "repr" = none) (ha : DE C Fam a fa) (hg : ∀ j, Gl (C.X j) "repr" := by intro _; rfl) (he : ∀ j, starEach [a] (C.X j).env = (false, eval a (C.X j).env) :: starEach [] (C.X j).env := by intro _; rfl) : DE C Fam (.Call (.Name "repr" p) [a] [] pos) (mUn opRepr fa) :=
  d_cb (r := rRepr C.K) (fun j => by rw [← C.hK j]; exact cr_repr (C.hgd j) (by have := C.un j; omega)) (fun _ _ => b_repr) (by decide +kernel) hm ha hg (he := he)
end
end DL
namespace DL
open PySem PySem.Spec PyProof.Rows L2
/-- the deck: its great cells, all cells, how many draws were mixed -/
structure Dk where
  big : List Int
  cells : List Int
  turn : Int
def deckW (pw : World) (a0 a1 a2 : Addr) (h01 : a0 ≠ a1) (h02 : a0 ≠ a2) (h12 : a1 ≠ a2) : Wd Dk where
  pw := pw
  fp := fun a => a = a0 ∨ a = a1 ∨ a = a2
  holds := fun g H => H a0 = some (.lst [.ref a1, .ref a2, .int g.turn]) ∧ H a1 = some (.lst (g.big.map V.int)) ∧ H a2 = some (.lst (g.cells.map V.int)) ∧ g.big.length ≤ sizeLine ∧ g.cells.length ≤ sizeLine
  ref := fun n => match n with
    | 0 => .ref a0
    | 1 => .ref a1
    | 2 => .ref a2
    | _ => .non
  loc := fun g H H' h e => by
    rw [e a0 (.inl rfl), e a1 (.inr (.inl rfl)), e a2 (.inr (.inr rfl))]
    exact h
  there := fun g H a h ha => by
    rcases ha with rfl | rfl | rfl
    · rw [h.1]; simp
    · rw [h.2.1]; simp
    · rw [h.2.2.1]; simp
def DF (pw : World) (W : Wd Dk) : Prop := ∃ a0 a1 a2 h01 h02 h12, W = deckW pw a0 a1 a2 h01 h02 h12
def rdD (g : Dk) : Nat → Option D
  | 0 => some (.lst [.obj 1, .obj 2, .int g.turn])
  | 1 => some (.lst (g.big.map D.int))
  | 2 => some (.lst (g.cells.map D.int))
  | _ => none
theorem reps_ints {G : Type} {K : PySem.W.Frag} {W : Wd G} {P : Hp} : ∀ ns : List Int, Reps K W P (ns.map D.int) (ns.map V.int)
  | [] => by simp [Reps]
  | n :: ns => by
    rw [List.map_cons, List.map_cons]
    simp only [Reps]
    exact ⟨_, _, rfl, by simp, reps_ints ns⟩
theorem rdW {K : PySem.W.Frag} {pw : World} : RdW K (DF pw) rdD := by
  intro W hW P H g n d hh hd
  obtain ⟨a0, a1, a2, h01, h02, h12, rfl⟩ := hW
  obtain ⟨h0, h1, h2, z1, z2⟩ := hh
  match n, hd with
  | 0, hd =>
    cases hd
    refine ⟨a0, _, rfl, h0, by rw [sizeLine_eq]; simp, ?_⟩
    simp only [Reps, Rep]
    exact ⟨_, _, rfl, rfl, _, _, rfl, rfl, _, _, rfl, rfl, rfl⟩
  | 1, hd =>
    cases hd
    exact ⟨a1, _, rfl, h1, by simpa using z1, reps_ints _⟩
  | 2, hd =>
    cases hd
    exact ⟨a2, _, rfl, h2, by simpa using z2, reps_ints _⟩
def wput (g : Dk) : Nat → Int → Int → Option Dk
  | 1, 0, m => match g.big with
    | _ :: r => some { g with big := m :: r }
    | [] => none
  | 0, 2, m => some { g with turn := m }
  | _, _, _ => none
def mPutW (fo fi fv : M Dk S) : M Dk Fl := fun st g => bnd (fv st g) fun x st g => bnd (fo st g) fun o st g => bnd (fi st g) fun i st g =>
  match x, o, i with
  | .sh (.int m), .sh (.obj n), .sh (.int k) => (wput g n k m).map fun g' => (.nx, st, g')
  | _, _, _ => none
def mPopW (fo : M Dk S) : M Dk S := fun st g => bnd (fo st g) fun o st g =>
  match o, g.big with
  | .sh (.obj 1), b :: r => some (.sh (.int b), st, { g with big := r })
  | _, _ => none
section
variable {C : CF} {a b c o i v : Expr} {fo fi fv : M Dk S} {pos p p1 p2 : Pos}
theorem ev_putW {K : PySem.W.Frag} {W : Wd Dk} {pw : World} (hW : DF pw W) {to ti tv : TE} (eo : EvE K W to fo) (ei : EvE K W ti fi) (ev : EvE K W tv fv) : EvS K W (tAsg tv (gSub to ti rSetL)) (mPutW fo fi fv) := by
  intro P₀ H₀ σ st τ ts H g fl st' g' E n R h q
  obtain ⟨x, st1, g1, e1, k1⟩ := bnd_eq h
  clear h
  obtain ⟨oo, st2, g2, e2, k2⟩ := bnd_eq k1
  clear k1
  obtain ⟨ii, st3, g3, e3, h⟩ := bnd_eq k2
  clear k2
  refine ev _ _ _ _ _ _ _ _ _ _ _ _ R e1 fun xv H1 R1 => ?_
  refine eo _ _ _ _ _ _ _ _ _ _ _ _ R1 e2 fun ov H2 R2 => ?_
  refine ei _ _ _ _ _ _ _ _ _ _ _ _ R2 e3 fun iv H3 R3 => ?_
  obtain ⟨P, O, R3⟩ := R3
  split at h
  · rename_i m n k
    obtain ⟨g4, e4, h⟩ := Option.map_eq_some_iff.mp h
    simp only [Prod.mk.injEq] at h; obtain ⟨rfl, rfl, rfl⟩ := h
    have r1 : Rep K W P (.int m) xv := R3.temps.2.2.1
    have r2 : Rep K W P (.obj n) ov := R3.temps.2.1
    have r3 : Rep K W P (.int k) iv := R3.temps.1
    rw [rep_int] at r1 r3
    simp only [Rep] at r2
    subst r1 r2 r3
    have R4 := R3.pop.pop.pop
    obtain ⟨a0, a1, a2, h01, h02, h12, rfl⟩ := hW
    have hh := R4.wld
    obtain ⟨h0, h1, h2, z1, z2⟩ := hh
    match n, k, e4 with
    | 1, 0, e4 =>
      simp only [wput] at e4
      cases hb : g3.big with
      | nil => rw [hb] at e4; cases e4
      | cons b r =>
        rw [hb] at e4
        cases e4
        refine ⟨a1, _, 0, 0, rfl, rfl, h1, by rw [hb]; simp [ixN], ?_⟩
        refine q _ _ ⟨P, O, R4.world (fun a ha => upd_ne fun e => ha (.inr (.inl e))) ⟨?_, ?_, ?_, ?_, z2⟩⟩
        · rw [upd_ne h01]; exact h0
        · rw [upd_same, hb]; rfl
        · rw [upd_ne (Ne.symm h12)]; exact h2
        · rw [hb] at z1; simpa using z1
    | 0, 2, e4 =>
      cases e4
      refine ⟨a0, _, 2, 2, rfl, rfl, h0, by simp [ixN], ?_⟩
      refine q _ _ ⟨P, O, R4.world (fun a ha => upd_ne fun e => ha (.inl e)) ⟨?_, ?_, ?_, z1, z2⟩⟩
      · rw [upd_same]; rfl
      · rw [upd_ne (Ne.symm h01)]; exact h1
      · rw [upd_ne (Ne.symm h02)]; exact h2
  · cases h
theorem d_putW {pw : World} (ho : DE C (DF pw) o fo) (hi : DE C (DF pw) i fi) (hv : DE C (DF pw) v fv) (ha : ∀ j w', assign (.Subscript o i p) (C.X j).env w' = (do
      let ov ← holding [w'] (eval o (C.X j).env)
      let iv ← holding [w', ov] (eval i (C.X j).env)
      standAt p
      holding [w', ov, iv] (setItem ov iv w')
      release [w', ov, iv] []) := by intro _ _; rfl) (hs : ∀ j, swapsWithSole [.Subscript o i p] v pos.line (C.X j).env = pure false := by intro _; rfl) (hw : ∀ j, swappedStores [.Subscript o i p] v (C.X j).env = pure none := by intro _; rfl)
    (h1 : ∀ j, (assignEach [.Subscript o i p] (C.X j).env).map (·.2) = [assign (.Subscript o i p) (C.X j).env] := by intro _; rfl) : DS C (DF pw) (.Assign [.Subscript o i p] v pos) (mPutW fo fi fv) := by
  obtain ⟨to, po, eo⟩ := ho.ex
  obtain ⟨ti, pi, ei⟩ := hi.ex
  obtain ⟨tv, pv, ev⟩ := hv.ex
  exact ⟨_, fun j => ps_asg (pv j) (pg_sub (po j) (pi j) set_list (ha j)) (hs j) (hw j) (h1 j), fun W hW => ev_putW hW (eo W hW) (ei W hW) (ev W hW)⟩
theorem d_popW {k} {pw : World} (ho : DE C (DF pw) o fo) (hbase : ∀ j, attributeBase o "pop" (C.X j).env (eval o (C.X j).env) = eval o (C.X j).env := by intro _; rfl)
    (hfew : ∀ j, ((backTo pos (starEach [.Constant (.int 0) k p1] (C.X j).env)).all (fun x => !x.1) && (backToKw pos (keywordEach [] (C.X j).env)).all (fun x => x.1.isSome) && decide ([Expr.Constant (.int 0) k p1].length + ([] : List Keyword).length + (if ([] : List Keyword).isEmpty then 0 else 1) < 30)) = true := by intro _; rfl)
    (hline : (p2.endLine == pos.line) = true := by rfl) : DE C (DF pw) (.Call (.Attribute o "pop" p2) [.Constant (.int 0) k p1] [] pos) (mPopW fo) := by
  obtain ⟨to, po, eo⟩ := ho.ex
  refine ⟨tBM C.K "list" rPopAt to (tCons (tC (.int 0)) tNil), fun j => by rw [← C.hK j]; exact pe_bm PySem.F.plainAttrs_list PySem.F.slot_list_pop PySem.F.type_list_pop mt_popAt (po j) (pa_cons pe_int pa_nil rfl) (hbase j) (hfew j) hline rfl, fun W hW => ?_⟩
  intro P₀ H₀ σ st τ ts H g z st' g' Q R h q
  obtain ⟨x, st1, g1, e1, h⟩ := bnd_eq h
  refine eo W hW _ _ _ _ _ _ _ _ _ _ _ _ R e1 fun ov H1 R1 => ?_
  obtain ⟨P, O, R1⟩ := R1
  split at h
  · rename_i b r hb
    cases h
    have r2 : Rep C.K W P (.obj 1) ov := R1.temps.1
    simp only [Rep] at r2
    subst r2
    have R2 := R1.pop
    obtain ⟨a0, a1, a2, h01, h02, h12, rfl⟩ := hW
    obtain ⟨h0, h1, h2, z1, z2⟩ := R2.wld
    rw [hb] at h1 z1
    refine ⟨.inl ⟨rfl, _, SqL.of h1⟩, a1, _, 0, 0, .int b, rfl, rfl, h1, by decide, by decide, by simp [seqIndex?], rfl, ?_⟩
    refine q _ _ (RelB.ofSh (P := P) (O := O) (R2.world (fun a ha => upd_ne fun e => ha (.inr (.inl e))) ⟨?_, ?_, ?_, ?_, z2⟩) (by simp))
    · rw [upd_ne h01]; exact h0
    · rw [upd_same]; rfl
    · rw [upd_ne (Ne.symm h12)]; exact h2
    · simp at z1; show r.length ≤ sizeLine; omega
  · cases h
end
/-! ### a new deck -/
def deck0 (ns : List Int) : Dk := ⟨(ns.map fun n => if n < 0 then -n else n).filter fun n => decide ((10 : Int) ^ 18 ≤ n), (ns.map fun n => if n < 0 then -n else n) ++ [(ns.length : Int) + 5], 0⟩
end DL
namespace DL
open PySem PySem.Spec PyProof.Rows L2
theorem funOf {K : PySem.W.Frag} {x : Str} {st : Stmt} {f : Addr} {fd : FuncData} (F : FunD K x x (defArgs st) (defBody st) (defScope st) [] [] f fd) : Fun K x x st f fd := by
  obtain ⟨oc, od, dV, kV, doc, pm, an, cdv, ct, osl, rfl, lk, hcd, hD, _⟩ := F.ex
  rcases hD with ⟨_, rfl⟩ | ⟨e, _⟩
  · exact ⟨⟨oc, od, kV, doc, pm, an, cdv, ct, osl, rfl, lk, hcd⟩, F.kp⟩
  · exact absurd rfl e
theorem walkGE {l : PySem.W.OpenLaw} {n k : Nat} {q : Program} {loose : List Str} {XP : (Str → Option Value) → Heap → Prop} {YP : World → Heap → Prop} {d : DefRec} {x : Str}
    (hn : l.most = some n) (hn2 : n ≤ sizeLine) (hdf : d.params.defaults = []) (hr : Room k callerA)
    (F : ∀ (w : World) (mg : Str → Option Value) (fa : Addr) (h : Heap), YP w h → h.Ns mainGlobals mg → mg d.name = some (.ref fa) →
      ∃ (K : PySem.W.Frag) (fd : FuncData) (sp : Sp), K.In h ∧ (∀ (s : Shared) (u : Value), BindsTo s fd ⟨[u], []⟩ [(x, u)]) ∧
        (∀ (H : Hp) (a : Addr) (ns : List Int), ns.length ≤ n → Only H → SqL K H a (ns.map V.int) → sp [.ref a] H (fun v _ => v = .bl true) fun _ _ _ => False) ∧
        ∀ base : Heap, K.In base → base.Ns mainGlobals mg → DZ.FnG l.prog w K mg base CX0 k fa fd [x] sp) :
    PySem.W.WalkO q loose XP YP l.row.toRowW d [] (fun f vs => PySem.call f vs) := by
  refine Att.attach_call hn hdf fun w s₀ s₁ mg mb fa o pm cd doc a vs ns G Y ho hd hcd hmg hobj hints hlen hg => ?_
  obtain ⟨K, fd, sp, KX, hb, hsp, hF⟩ := F w mg fa _ Y G.T.g hmg
  exact DZ.law_callG KX G.T.g G.T.b G.T.builtins G.T.nolimit hg hobj hints (Nat.le_trans hlen hn2) hr hF hb fun H hO hS => hsp H a ns hlen hO hS
/-! ### the script as a world -/
def SqW (K : PySem.W.Frag) (ns : List Int) (W : Wd Unit) : Prop := ns.length ≤ sizeLine ∧ ∃ a, W.ref 0 = .ref a ∧ ∀ g H, W.holds g H → SqL K H a (ns.map V.int)
def mScr (i : Nat) (ns : List Int) : M Unit (List D × List S) := fun st g => match st[i]? with
  | some (some (.sh (.obj 0))) => some ((ns.map D.int, [.sh (.obj 0)]), st, g)
  | _ => none
theorem i_scr {C : CF} {tg : Expr} {ns : List Int} (i : Nat) {x : Str} {p : Pos} (hN : C.N[i]? = some x := by rfl) (hvis : ∀ j, Vis (C.X j).env.scope x := by intro _; first | exact Or.inl rfl | exact Or.inr (Or.inl rfl) | exact Or.inr (Or.inr rfl)) (hd : (x == ("__debug__" : Str)) = false := by decide)
    (hcd : (x == ("__classdict__" : Str)) = false := by decide) : DI C (SqW C.K ns) false tg (.Name x p) (mScr i ns) := by
  refine ⟨iList C.K (tVar i), fun j => by rw [← C.hK j]; exact pi_list (pe_var (i := i) (by rw [C.hN j]; exact hN) (hvis j) hd hcd), fun W hW P₀ H₀ σ st τ ts H g items cells st' g' R Rl h q => ?_⟩
  unfold mScr at h
  split at h
  · rename_i e
    simp only [Option.some.injEq, Prod.mk.injEq] at h; obtain ⟨⟨rfl, rfl⟩, rfl, _⟩ := h
    obtain ⟨hz, a, ea, hh⟩ := hW
    obtain ⟨P, O, Rl⟩ := Rl
    obtain ⟨v, e1, e2, rv⟩ := Rl.slot e
    have rv : Rep C.K W P (.obj 0) v := rv
    simp only [Rep] at rv
    rw [ea] at rv
    subst rv
    have sq := hh g H Rl.wld
    refine ⟨.ref a, e1, a, rfl, ⟨_, sq⟩, q _ [.ref a] H ⟨P, O, Rl.push (by simp only [Rep]; exact ea.symm)⟩ ?_⟩
    refine ⟨by simpa using hz, rfl, noAt_sh _, fun P₀ H₀ σ st ρ rs τ ts H g hl R => ?_⟩
    obtain ⟨P, O, R⟩ := R
    have sq' := hh g H R.wld
    refine ⟨fun i d e => ?_, fun i hi => ⟨_, sq', by simpa using hi⟩⟩
    rw [List.getElem?_map] at e
    obtain ⟨n, en, rfl⟩ := Option.map_eq_some_iff.mp e
    have ex : (ns.map V.int)[i]? = some (.int n) := by rw [List.getElem?_map, en]; rfl
    refine ⟨⟨_, _, sq', ex⟩, fun y H' ⟨e1, e2⟩ => ?_⟩
    subst e1
    have : some (V.int n) = some y := ex.symm.trans (e2 _ sq')
    cases this
    exact ⟨P, O, R, by simp [RepF]⟩
  · cases h
/-- the two worlds of a script -/
def scrK (pw : World) (a : Addr) : Wd Unit where
  pw := pw
  fp := fun _ => False
  holds := fun _ _ => True
  ref := fun _ => .ref a
  loc := fun _ _ _ _ _ => trivial
  there := fun _ _ _ _ h => h.elim
def scrF (pw : World) (a : Addr) (o : HO) : Wd Unit where
  pw := pw
  fp := fun b => b = a
  holds := fun _ H => H a = some o
  ref := fun _ => .ref a
  loc := fun _ H H' h e => by rw [e a rfl]; exact h
  there := fun _ H b h e => by rw [e, h]; simp
theorem scr_of (pw : World) {K : PySem.W.Frag} {H : Hp} {a : Addr} {ns : List Int} (h : SqL K H a (ns.map V.int)) (hz : ns.length ≤ sizeLine) : ∃ W, SqW K ns W ∧ W.ref 0 = .ref a ∧ W.holds () H := by
  rcases h with (h | ⟨o, h⟩) | h
  · exact ⟨scrF pw a _, ⟨hz, a, rfl, fun g H' e => .inl (.inl e)⟩, rfl, h⟩
  · exact ⟨scrF pw a _, ⟨hz, a, rfl, fun g H' e => .inl (.inr ⟨o, e⟩)⟩, rfl, h⟩
  · exact ⟨scrK pw a, ⟨hz, a, rfl, fun g H' e => .inr h⟩, rfl, trivial⟩
/-! ### _law_deck -/
def spDeck (K : PySem.W.Frag) : Sp := fun vs H Q _ => ∃ (a : Addr) (ns : List Int), vs = [.ref a] ∧ SqL K H a (ns.map V.int) ∧ ns.length ≤ 63 ∧
  ∀ (pw : World) (H' : Hp) (a0 a1 a2 : Addr) (h01 : a0 ≠ a1) (h02 : a0 ≠ a2) (h12 : a1 ≠ a2), (deckW pw a0 a1 a2 h01 h02 h12).holds (deck0 ns) H' → Q (.ref a0) H'
section
variable {P : Program} {w : World} {K : PySem.W.Frag} {mg : Str → Option Value} {base : Heap} {f : Addr} {fd : FuncData} {k : Nat}
theorem deck_of {x s : Str} {stm s1 : Stmt} {e1 e2 : Expr} {N : List Str} {m1 : List Int → M Unit Fl} {f1 f2 : List Int → M Unit S} {pc pl pr : Pos} {kc} (F : Fun K x x stm f fd) (Sc : FnScope N [s] (defScope stm))
    (hb : defBody stm = [s1, .Return (some (.List [e1, e2, .Constant (.int 0) kc pc] pl)) pr])
    (d1 : ∀ ns, DS (fcx P w K mg base N k x stm f Sc.nd) (SqW K ns) s1 (m1 ns)) (d2 : ∀ ns, DE (fcx P w K mg base N k x stm f Sc.nd) (SqW K ns) e1 (f1 ns)) (d3 : ∀ ns, DE (fcx P w K mg base N k x stm f Sc.nd) (SqW K ns) e2 (f2 ns))
    (hst : ∀ env, starEach [e1, e2, .Constant (.int 0) kc pc] env = (false, eval e1 env) :: starEach [e2, .Constant (.int 0) kc pc] env) (hst2 : ∀ env, starEach [e2, .Constant (.int 0) kc pc] env = (false, eval e2 env) :: starEach [.Constant (.int 0) kc pc] env)
    (hm : ∀ ns : List Int, ns.length ≤ 63 → ∃ st1 st2 st3, m1 ns (some (.sh (.obj 0)) :: List.replicate (N.length - 1) none) () = some (.nx, st1, ()) ∧ f1 ns st1 () = some (.ow (.lst ((deck0 ns).big.map D.int)), st2, ()) ∧ f2 ns st2 () = some (.ow (.lst ((deck0 ns).cells.map D.int)), st3, ())) :
    DZ.FnG P w K mg base CX0 (k + 1) f fd [s] (spDeck K) := by
  refine DZ.fnG_of F Sc (fun vs H Q E h => ?_) (fun cdv A outer sh H vs Q E hr hgd h => ?_)
  · obtain ⟨a, ns, rfl, _⟩ := h; rfl
  · obtain ⟨a, ns, rfl, sq, hz, q⟩ := h
    have hz' : ns.length ≤ sizeLine := by rw [sizeLine_eq]; omega
    obtain ⟨W, hW, hr0, hh⟩ := scr_of w sq hz'
    obtain ⟨t1, p1, v1⟩ := (d1 ns).ex
    obtain ⟨t2, p2, v2⟩ := (d2 ns).ex
    obtain ⟨t3, p3, v3⟩ := (d3 ns).ex
    obtain ⟨st1, st2, st3, g1, g2, g3⟩ := hm ns hz
    let j : FI k x stm f := ⟨cdv, A, outer, sh, H, E, hr, hgd⟩
    rw [hb]
    refine ⟨_, PSs.nox (pss_cons (p1 j) (pss_one (ps_ret (pe_lst (pa_cons (p2 j) (pa_cons (p3 j) (pa_cons pe_int pa_nil rfl) (hst2 _)) (hst _)))))), ?_⟩
    · have R : RelB K W (fun _ => none) H (fun _ => none) (fun _ => none) (L2.start N [.ref a]) (some (.sh (.obj 0)) :: List.replicate (N.length - 1) none) [] [] H () := by
        refine ⟨(fun _ _ e => nomatch e), (fun _ _ e _ => e), Sub.refl _, fun a e => absurd rfl e, fun a e => absurd rfl e, (fun a t e => nomatch e), hh, by simp [L2.start], fun i s e => ?_, trivial⟩
        cases i with
        | zero =>
          simp only [List.getElem?_cons_zero, Option.some.injEq] at e; subst e
          exact ⟨.ref a, rfl, (fun _ q => nomatch q), by show Rep K W (fun _ => none) (.obj 0) _; simp only [Rep]; exact hr0.symm⟩
        | succ i =>
          simp only [List.getElem?_cons_succ] at e
          have := List.mem_of_getElem? e
          rw [List.mem_replicate] at this
          cases this.2
      have no : NoAt ([] : List S) := fun i z => by cases z
      refine v1 W hW _ _ _ _ _ _ _ _ _ _ _ _ no ⟨_, _, R⟩ g1 fun σ1 H1 R1 => ?_
      refine v2 W hW _ _ _ _ _ _ _ _ _ _ _ _ R1 g2 fun u1 H2 R2 => ?_
      refine v3 W hW _ _ _ _ _ _ _ _ _ _ _ _ R2 g3 fun u2 H3 R3 => ?_
      obtain ⟨P3, O3, R3⟩ := R3
      obtain ⟨a2, o2, rfl, t2, q2, xs2, rfl, z2, r2⟩ := R3.temps.1
      obtain ⟨a1, o1, rfl, t1, q1, xs1, rfl, z1, r1⟩ := R3.temps.2.1
      refine ⟨by rw [sizeLine_eq]; simp, fun p hp => ?_⟩
      have ne : a1 ≠ a2 := fun e => by subst e; rw [t1] at t2; cases t2
      have e1 := intsD_rep (bs := (deck0 ns).big) (by
        have : ∀ l : List Int, intsD (l.map D.int) = some l := by intro l; induction l with | nil => rfl | cons x l ih => simp [intsD, ih]
        exact this _) r1
      have e2 := intsD_rep (bs := (deck0 ns).cells) (by
        have : ∀ l : List Int, intsD (l.map D.int) = some l := by intro l; induction l with | nil => rfl | cons x l ih => simp [intsD, ih]
        exact this _) r2
      subst e1 e2
      have n1 : p ≠ a1 := fun e => by subst e; rw [hp] at q1; cases q1
      have n2 : p ≠ a2 := fun e => by subst e; rw [hp] at q2; cases q2
      refine q w _ p a1 a2 n1 n2 ne ⟨?_, ?_, ?_, by simpa using z1, by simpa using z2⟩
      · rw [upd_same]; rfl
      · rw [upd_ne (Ne.symm n1)]; exact q1
      · rw [upd_ne (Ne.symm n2)]; exact q2
/-! ### the law -/
def spTrue (K : PySem.W.Frag) : Sp := fun vs H Q _ => ∃ (a : Addr) (ns : List Int), vs = [.ref a] ∧ SqL K H a (ns.map V.int) ∧ ns.length ≤ 63 ∧ ∀ H', Q (.bl true) H'
theorem law_of {x s dk sd : Str} {stm : Stmt} {rest : List Stmt} {N : List Str} {b : M Dk Fl} {i : Nat} {pd ps pc pp pa : Pos} {fk : Addr} {fdk : FuncData} {kd : Nat} (F : Fun K x x stm f fd) (Sc : FnScope N [s] (defScope stm))
    (hb : defBody stm = .Assign [.Name sd pd] (.Call (.Name dk pc) [.Name s ps] [] pp) pa :: rest)
    (D0 : DZ.FnG P w K mg base CX0 kd fk fdk [s] (spDeck K)) (hmk : mg dk = some (.ref fk)) (hkp : PySem.W.keepIn K (.ref fk) = true) (hbd : Binds K fdk [s] [])
    (dr : DSs (fcx P w K mg base N k x stm f Sc.nd) (DF w) rest b) (hk : kd ≤ k := by decide)
    (hN0 : N[0]? = some s := by rfl) (hNi : N[i]? = some sd := by rfl) (hi0 : i ≠ 0 := by decide) (hgl : ∀ j : FI k x stm f, Gl ((fcx P w K mg base N k x stm f Sc.nd).X j) dk := by intro _; rfl) (hdb : (dk == ("__debug__" : Str)) = false := by decide) (hds : (s == ("__debug__" : Str)) = false := by decide) (hcs : (s == ("__classdict__" : Str)) = false := by decide)
    (hvs : ∀ j : FI k x stm f, Vis ((fcx P w K mg base N k x stm f Sc.nd).X j).env.scope s := by intro _; first | exact Or.inl rfl | exact Or.inr (Or.inl rfl) | exact Or.inr (Or.inr rfl))
    (hx : ∀ j : FI k x stm f, Loc ((fcx P w K mg base N k x stm f Sc.nd).X j).env.scope sd := by intro _; first | exact Or.inl rfl | exact Or.inr rfl) (hs : ∀ j : FI k x stm f, swapsWith (.Call (.Name dk pc) [.Name s ps] [] pp) (some (.Name sd pd)) pa.line ((fcx P w K mg base N k x stm f Sc.nd).X j).env = pure false := by intro _; rfl)
    (hf : ∀ j : FI k x stm f, ((fcx P w K mg base N k x stm f Sc.nd).X j).fn sd = true ∨ ((fcx P w K mg base N k x stm f Sc.nd).X j).env.scope.names.lookup sd = some .local := by intro _; first | exact .inl rfl | exact .inr rfl)
    (hgood : ∀ ns : List Int, ns.length ≤ 63 → ∃ st' g', b ((List.replicate N.length none).set i (some (.sh (.obj 0)))) (deck0 ns) = some (.rt (.bl true), st', g')) :
    DZ.FnG P w K mg base CX0 (k + 1) f fd [s] (spTrue K) := by
  refine DZ.fnG_of F Sc (fun vs H Q E h => ?_) (fun cdv A outer sh H vs Q E hr hgd h => ?_)
  · obtain ⟨a, ns, rfl, _⟩ := h; rfl
  · obtain ⟨a, ns, rfl, sq, hz, q⟩ := h
    obtain ⟨t, p, v⟩ := dr.ex
    obtain ⟨st', g', e⟩ := hgood ns hz
    let j : FI k x stm f := ⟨cdv, A, outer, sh, H, E, hr, hgd⟩
    rw [hb]
    refine ⟨_, PSs.nox (pss_cons (ps_set (i := i) Sc.nd hNi (hx j) (DZ.pe_callG D0 (hr.mono hk) hgd (hgl j) hmk hkp hbd (pass0 (X := (fcx P w K mg base N k x stm f Sc.nd).X j)) (pa_cons (pe_var (i := 0) hN0 (hvs j) hds hcs) pa_nil rfl) hdb rfl rfl) (hs j) (hf j)) (p j)), ?_⟩
    · have hlen : 0 < N.length := by
        cases N with
        | nil => simp at hN0
        | cons _ _ => simp
      have hi : i < N.length := (List.getElem?_eq_some_iff.mp hNi).1
      have s0 : (L2.start N [.ref a])[0]? = some (some (.ref a)) := rfl
      refine ⟨.ref a, s0, a, ns, rfl, sq, hz, fun _ H' a0 a1 a2 h01 h02 h12 hh => ?_⟩
      have R : RelB K (deckW w a0 a1 a2 h01 h02 h12) (fun _ => none) H' (fun _ => none) (fun _ => none) ((L2.start N [.ref a]).set i (some (.ref a0))) ((List.replicate N.length none).set i (some (.sh (.obj 0)))) [] [] H' (deck0 ns) := by
        refine ⟨(fun _ _ e => nomatch e), (fun _ _ e _ => e), Sub.refl _, fun a e => absurd rfl e, fun a e => absurd rfl e, (fun a t e => nomatch e), hh, ?_, fun l s e => ?_, trivial⟩
        · simp [L2.start]; omega
        · by_cases hl : l = i
          · subst hl
            rw [List.getElem?_set_self (by simpa using hi)] at e
            simp only [Option.some.injEq] at e; subst e
            exact ⟨.ref a0, List.getElem?_set_self (by simp [L2.start]; omega), (fun _ q => nomatch q), by show Rep K (deckW w a0 a1 a2 h01 h02 h12) (fun _ => none) (.obj 0) _; simp only [Rep]; rfl⟩
          · rw [List.getElem?_set_ne (Ne.symm hl)] at e
            have := List.mem_of_getElem? e
            rw [List.mem_replicate] at this
            cases this.2
      have no : NoAt ([] : List S) := fun i z => by cases z
      refine v _ ⟨a0, a1, a2, h01, h02, h12, rfl⟩ _ _ _ _ _ _ _ _ _ _ _ _ no ⟨_, _, R⟩ e fun σ' u H2 R2 => ?_
      obtain ⟨P2, O2, R2⟩ := R2
      have hu : Rep K (deckW w a0 a1 a2 h01 h02 h12) P2 (.bl true) u := R2.temps.1
      rw [rep_blk] at hu
      subst hu
      exact q H2
end
end DL
namespace DL
open PySem PySem.Spec PyProof.Rows L2
def DefOk (K : PySem.W.Frag) (mg : Str → Option Value) (x : Str) (st : Stmt) (ps : List Str) : Prop := ∃ f fd, Fun K x x st f fd ∧ mg x = some (.ref f) ∧ Binds K fd ps []
/-! ### a comprehension, a loop by an invariant -/
section
variable {G : Type}
theorem compM_rule {p : Pt} {vs : List Nat} {test : M G Bool} {elt : M G S} (J : Nat → List D → Sl → G → Prop) : ∀ (items : List D) (i : Nat) (acc : List D) (st : Sl) (g : G), J i acc st g →
    (∀ k d acc st g, items[k]? = some d → J (i + k) acc st g → ∃ st1, asg p d (wipeS st vs) = some st1 ∧ ∃ b st2 g2, test st1 g = some (b, st2, g2) ∧
      (b = true → ∃ y st3 g3, mTake elt st2 g2 = some (y, st3, g3) ∧ J (i + k + 1) (acc ++ [y]) st3 g3) ∧ (b = false → J (i + k + 1) acc st2 g2)) →
    ∃ acc' st' g', compM p vs test elt items acc st g = some (acc', st', g') ∧ J (i + items.length) acc' st' g'
  | [], i, acc, st, g, h, _ => ⟨acc, st, g, rfl, h⟩
  | d :: ds, i, acc, st, g, h, hs => by
    obtain ⟨st1, e1, b, st2, g2, e2, ht, hf⟩ := hs 0 d acc st g rfl h
    have tail : ∀ acc st g, J (i + 1) acc st g → ∃ acc' st' g', compM p vs test elt ds acc st g = some (acc', st', g') ∧ J (i + 1 + ds.length) acc' st' g' := fun acc st g hj =>
      compM_rule J ds (i + 1) acc st g hj fun k d acc st g e hj => by
        have := hs (k + 1) d acc st g (by simpa using e) (by rw [show i + (k + 1) = i + 1 + k by omega]; exact hj)
        rw [show i + (k + 1) + 1 = i + 1 + k + 1 by omega] at this
        exact this
    have el : i + (d :: ds).length = i + 1 + ds.length := by rw [List.length_cons]; omega
    rw [el]
    unfold compM
    rw [e1, Option.bind_some, e2, bnd_some]
    cases b with
    | true =>
      obtain ⟨y, st3, g3, e3, hj⟩ := ht rfl
      rw [if_pos rfl, e3, bnd_some]
      exact tail _ _ _ hj
    | false =>
      rw [if_neg (by simp)]
      exact tail _ _ _ (hf rfl)
/-- a comprehension whose parts draw nothing and keep the slots -/
theorem compM_pure {p : Pt} {vs : List Nat} {test : M G Bool} {elt : M G S} {f : D → Bool} {h : D → D} {w0 : Sl} {g : G} (items : List D) {st : Sl} (hw : wipeS st vs = w0)
    (hs : ∀ d ∈ items, ∃ st1, asg p d w0 = some st1 ∧ wipeS st1 vs = w0 ∧ test st1 g = some (f d, st1, g) ∧ (f d = true → mTake elt st1 g = some (h d, st1, g))) :
    ∃ st', compM p vs test elt items [] st g = some ((items.filter f).map h, st', g) ∧ wipeS st' vs = w0 := by
  obtain ⟨acc, st', g', e, rfl, hw', ha⟩ := compM_rule (p := p) (vs := vs) (test := test) (elt := elt) (fun i acc st g' => g' = g ∧ wipeS st vs = w0 ∧ acc = ((items.take i).filter f).map h) items 0 [] st g ⟨rfl, hw, by simp⟩ fun k d acc st g' e ⟨hg, hw, ha⟩ => by
    subst hg
    obtain ⟨st1, e1, e2, e3, e4⟩ := hs d (List.mem_of_getElem? e)
    rw [hw]
    refine ⟨st1, e1, f d, st1, g', e3, fun hb => ⟨h d, st1, g', e4 hb, rfl, e2, ?_⟩, fun hb => ⟨rfl, e2, ?_⟩⟩
    · rw [show 0 + k + 1 = k + 1 by omega, List.take_add_one, e, ha, show 0 + k = k by omega]
      simp [hb]
    · rw [show 0 + k + 1 = k + 1 by omega, List.take_add_one, e, ha, show 0 + k = k by omega]
      simp [hb]
  refine ⟨st', ?_, hw'⟩
  rw [e, ha]; simp
theorem forM_rule {p : Pt} {body : M G Fl} (J : Nat → Sl → G → Prop) : ∀ (items : List D) (i : Nat) (st : Sl) (g : G), J i st g →
    (∀ k d st g, items[k]? = some d → J (i + k) st g → ∃ st1, asg p d st = some st1 ∧ ∃ st2 g2, body st1 g = some (.nx, st2, g2) ∧ J (i + k + 1) st2 g2) →
    ∃ st' g', forM p body items st g = some (.nx, st', g') ∧ J (i + items.length) st' g'
  | [], i, st, g, h, _ => ⟨st, g, rfl, h⟩
  | d :: ds, i, st, g, h, hs => by
    obtain ⟨st1, e1, st2, g2, e2, hj⟩ := hs 0 d st g rfl h
    have := forM_rule J ds (i + 1) st2 g2 hj fun k d st g e hj => by
        have := hs (k + 1) d st g (by simpa using e) (by rw [show i + (k + 1) = i + 1 + k by omega]; exact hj)
        rw [show i + (k + 1) + 1 = i + 1 + k + 1 by omega] at this
        exact this
    have el : i + (d :: ds).length = i + 1 + ds.length := by rw [List.length_cons]; omega
    rw [el]
    unfold forM
    rw [e1, Option.bind_some, e2, bnd_some]
    exact this
end
/-! ### the deck is made -/
def dk1 (ns : List Int) : M Unit Fl := (mSet 1 (mLc (mScr 0 ns) (.nm 2) [2] mYes (mUn opAbs (mVar 2))))
def dk2 (ns : List Int) : M Unit S := (mLc (srcSeq (mVar 1)) (.nm 2) [2] (mTest (mOp (opCmp .GtE) (mVar 2) (mOp opPow (mC (.int 10)) (mC (.int 18))))) (mVar 2))
def dk3 (ns : List Int) : M Unit S := (mOp opAdd (mVar 1) (mLst (mCons (mOp opAdd (mUn opLen (mVar 1)) (mC (.int 5))) mNil)))
theorem okCmp_int (a b : Int) : okCmp (.int a) (.int b) = true := by simp [okCmp, D.pl, D.py, PySem.W.alike, PyData.depth]
theorem ltD_int (a b : Int) : PySem.W.dataLt (.int a) (.int b) = decide (a < b) := by
  unfold PySem.W.dataLt
  simp only [PySem.W.keyToks]
  by_cases e : a = b
  · subst e; rw [lex_irrefl]; simp
  · rw [lex_diff (O := itemOrd) (fun q => e (by simpa using q))]; rfl
theorem deck_good (ns : List Int) (hz : ns.length ≤ 63) : ∃ st1 st2 st3, dk1 ns (some (.sh (.obj 0)) :: List.replicate (["_law_script", "_law_cells", "_law_number"].length - 1) none) () = some (.nx, st1, ()) ∧ dk2 ns st1 () = some (.ow (.lst ((deck0 ns).big.map D.int)), st2, ()) ∧ dk3 ns st2 () = some (.ow (.lst ((deck0 ns).cells.map D.int)), st3, ()) := by
  have hz' : ns.length + 1 ≤ sizeLine := by rw [sizeLine_eq]; omega
  have c1 : ∃ st', compM (.nm 2) [2] mYes (mUn opAbs (mVar 2)) (ns.map D.int) [] [some (.sh (.obj 0)), none, none] () = some (((ns.map D.int).filter fun _ => true).map (fun d => match d with | .int n => .int (if n < 0 then -n else n) | d => d), st', ()) ∧ wipeS st' [2] = [some (.sh (.obj 0)), none, none] := by
    refine compM_pure _ rfl fun d hd => ?_
    obtain ⟨n, _, rfl⟩ := List.mem_map.mp hd
    exact ⟨_, rfl, rfl, rfl, fun _ => rfl⟩
  obtain ⟨s1, e1, w1⟩ := c1
  have i1 : (((ns.map D.int).filter fun _ => true).map (fun d => match d with | .int n => .int (if n < 0 then -n else n) | d => d)) = (ns.map fun n => if n < 0 then -n else n).map D.int := by
    rw [List.filter_eq_self.mpr (fun _ _ => rfl), List.map_map, List.map_map]; rfl
  rw [i1] at e1
  let cs := ns.map fun n => if n < 0 then -n else n
  have c2 : ∃ st', compM (.nm 2) [2] (mTest (mOp (opCmp .GtE) (mVar 2) (mOp opPow (mC (.int 10)) (mC (.int 18))))) (mVar 2) (cs.map D.int) [] [some (.sh (.obj 0)), some (.sh (.lst (cs.map D.int))), none] () = some (((cs.map D.int).filter fun d => match d with | .int n => decide ((10 : Int) ^ 18 ≤ n) | _ => false).map id, st', ()) ∧ wipeS st' [2] = [some (.sh (.obj 0)), some (.sh (.lst (cs.map D.int))), none] := by
    refine compM_pure _ rfl fun d hd => ?_
    obtain ⟨n, _, rfl⟩ := List.mem_map.mp hd
    refine ⟨_, rfl, rfl, ?_, fun _ => rfl⟩
    have e : mTest (mOp (opCmp .GtE) (mVar 2) (mOp opPow (mC (.int 10)) (mC (.int 18)))) [some (.sh (.obj 0)), some (.sh (.lst (cs.map D.int))), some (.sh (.int n))] () = some (!decide (n < (10 : Int) ^ 18), [some (.sh (.obj 0)), some (.sh (.lst (cs.map D.int))), some (.sh (.int n))], ()) := by
      have p : okPow 10 18 = true := by decide
      simp only [mTest, mOp, mVar, mC, List.getElem?_cons_succ, List.getElem?_cons_zero, bnd_some, peek, Option.bind_some, opI2, p, if_true, Option.map_some, opCmp, okCmp_int, cmpD, D.py, ltD_int]
      rfl
    refine e.trans ?_
    have : (!decide (n < (10 : Int) ^ 18)) = decide ((10 : Int) ^ 18 ≤ n) := by
      rw [← decide_not]
      exact decide_eq_decide.mpr Int.not_lt
    rw [this]
    rfl
  obtain ⟨s2, e2, w2⟩ := c2
  refine ⟨[some (.sh (.obj 0)), some (.ow (.lst (cs.map D.int))), none], [some (.sh (.obj 0)), some (.sh (.lst (cs.map D.int))), none], [some (.sh (.obj 0)), some (.sh (.lst (cs.map D.int))), none], ?_, ?_, ?_⟩
  · unfold dk1 mSet mLc mScr
    simp only [List.getElem?_cons_zero, bnd_some]
    rw [show (some (S.sh (D.obj 0)) :: List.replicate (["_law_script", "_law_cells", "_law_number"].length - 1) (none : Option S)) = [some (S.sh (D.obj 0)), none, none] from rfl, e1, bnd_some, bnd_some, w1]
    rfl
  · unfold dk2 mLc srcSeq
    have t1 : mTake (mVar 1) [some (.sh (.obj 0)), some (.ow (.lst (cs.map D.int))), none] () = some (.lst (cs.map D.int), [some (.sh (.obj 0)), some (.sh (.lst (cs.map D.int))), none], ()) := rfl
    rw [t1, bnd_some]
    simp only [bnd_some]
    rw [e2, bnd_some, w2, List.map_id, List.filter_map]
    rfl
  · have l1 : (cs.map D.int).length + 1 ≤ sizeLine := by simpa [cs] using hz'
    have l2 : (1 : Nat) ≤ sizeLine := by rw [sizeLine_eq]; decide
    simp only [dk3, mOp, mVar, mC, mUn, mLst, mCons, mNil, mTake, List.getElem?_cons_succ, List.getElem?_cons_zero, bnd_some, peek, take, Option.bind_some, Option.map_some, opAdd, opLen, List.length_cons, List.length_nil, l1, l2, if_true, Nat.zero_add]
    simp [deck0, cs]
end DL
namespace DL
open PySem PySem.Spec PyProof.Rows L2
variable {G : Type}
/-! ### calls by names -/
def perm {α : Type} (d : α) (n : Nat) (pm : List Nat) (l : List α) : List α := if l.length = n then pm.map fun i => l.getD i d else []
def KwB (K : PySem.W.Frag) (fd : FuncData) (ps : List Str) (ks : List Str) (pm : List Nat) : Prop := ∀ (s : Shared) (ws : List Value), K.In s.heap → ws.length = ks.length → BindsTo s fd ⟨[], ks.zip ws⟩ (ps.zip (pm.map fun i => ws.getD i .none))
structure FDK (P : Program) (w : World) (K : PySem.W.Frag) (mg : Str → Option Value) (base : Heap) (Fam : Wd G → Prop) (k : Nat) (x : Str) (n : Nat) (F : Fn G) (kl : List (List Str × List Nat)) : Prop where
  ex : ∃ f fd ps, DZ.FnG P w K mg base CX0 k f fd ps (spF K Fam n F) ∧ mg x = some (.ref f) ∧ PySem.W.keepIn K (.ref f) = true ∧ Binds K fd ps [] ∧ ps.length = n ∧ ∀ q ∈ kl, KwB K fd ps q.1 q.2
theorem FDK.fd {P : Program} {w : World} {K : PySem.W.Frag} {mg : Str → Option Value} {base : Heap} {Fam : Wd G → Prop} {k n : Nat} {x : Str} {F : Fn G} {kl : List (List Str × List Nat)} (h : FDK P w K mg base Fam k x n F kl) : FD P w K mg base Fam k x n F :=
  let ⟨f, fd, ps, a, b, c, d, _, _⟩ := h.ex; ⟨f, fd, ps, a, b, c, d⟩
structure DKs (C : CF) (Fam : Wd G → Prop) (ks : List Keyword) (f : M G (List D)) : Prop where
  ex : ∃ t, (∀ j, PK (C.X j) ks t) ∧ ∀ W, Fam W → EvA' C.K W t f
  len : ∀ st g ds st' g', f st g = some (ds, st', g') → ds.length = ks.length
def permD (pm : List Nat) (ds : List D) : List D := pm.map fun i => ds.getD i .non
def mCallK (pm : List Nat) (F : Fn G) (fa : M G (List D)) : M G S := fun st g => bnd (fa st g) fun ds st g => (F (permD pm ds) g).map fun p => (.sh p.1, st, p.2)
theorem vals_getD : ∀ {zs : List V} {ws : List Value} (i : Nat), Vals zs ws → RelV (zs.getD i .non) (ws.getD i .none)
  | [], _, i, .nil => by simp; rfl
  | z :: zs, _, 0, .cons r t => by simpa using r
  | z :: zs, _, i + 1, .cons r t => by simpa using vals_getD i t
theorem vals_perm {zs : List V} {ws : List Value} (n : Nat) (pm : List Nat) (r : Vals zs ws) : Vals (perm .non n pm zs) (perm .none n pm ws) := by
  unfold perm
  rw [r.length]
  split
  · induction pm with
    | nil => exact .nil
    | cons i pm ih => exact .cons (vals_getD i r) ih
  · exact .nil
theorem reps_perm {K : PySem.W.Frag} {W : Wd G} {P : Hp} {ds : List D} {vs : List V} (r : Reps K W P ds vs) : ∀ pm : List Nat, Reps K W P (permD pm ds) (pm.map fun i => vs.getD i .non)
  | [] => by simp [permD, Reps]
  | i :: pm => by
    have ih := reps_perm r pm
    show Reps K W P (ds.getD i .non :: permD pm ds) (vs.getD i .non :: pm.map fun i => vs.getD i .non)
    simp only [Reps]
    refine ⟨_, _, rfl, ?_, ih⟩
    have : ∀ {ds : List D} {vs : List V} (i : Nat), Reps K W P ds vs → Rep K W P (ds.getD i .non) (vs.getD i .non) := by
      intro ds
      induction ds with
      | nil => intro vs i h; simp only [Reps] at h; subst h; simp
      | cons d ds ih =>
        intro vs i h
        simp only [Reps] at h
        obtain ⟨v, r', rfl, h1, h2⟩ := h
        cases i with
        | zero => simpa using h1
        | succ i => simpa using ih i h2
    exact this i r
section
variable {C : CF} {Fam : Wd G → Prop} {e : Expr} {kws : List Keyword} {pos p kpos : Pos} {nm : Option Str}
theorem k_nil : DKs C Fam [] mNil := ⟨⟨_, fun _ => pk_nil, fun W hW P₀ H₀ σ st τ ts H g ds st' g' Q R h q => by
  simp only [mNil, Option.some.injEq, Prod.mk.injEq] at h; obtain ⟨rfl, rfl, rfl⟩ := h
  obtain ⟨P, O, R⟩ := R
  exact q [] H P O R (by simp [Reps])⟩, fun st g ds st' g' h => by
  simp only [mNil, Option.some.injEq, Prod.mk.injEq] at h; obtain ⟨rfl, rfl, rfl⟩ := h; rfl⟩
theorem k_cons {f : M G S} {r : M G (List D)} (he : DE C Fam e f) (hr : DKs C Fam kws r) : DKs C Fam (⟨nm, e, kpos⟩ :: kws) (mCons f r) := by
  obtain ⟨ta, pa, ea⟩ := he.ex
  obtain ⟨tb, pb, eb⟩ := hr.ex
  refine ⟨⟨_, fun j => pk_cons (pa j) (pb j), fun W hW P₀ H₀ σ st τ ts H g ds st' g' Q R h q => ?_⟩, fun st g ds st' g' h => by
    obtain ⟨d, st1, g1, e1, h⟩ := bnd_eq h
    obtain ⟨ds', st2, g2, e2, h⟩ := bnd_eq h
    simp only [Option.some.injEq, Prod.mk.injEq] at h; obtain ⟨rfl, rfl, rfl⟩ := h
    rw [List.length_cons, List.length_cons, hr.len _ _ _ _ _ e2]⟩
  obtain ⟨d, st1, g1, e1, h⟩ := bnd_eq h
  obtain ⟨ds', st2, g2, e2, h⟩ := bnd_eq h
  simp only [Option.some.injEq, Prod.mk.injEq] at h; obtain ⟨rfl, rfl, rfl⟩ := h
  obtain ⟨x, st0, e3, e4⟩ := mTake_eq e1
  refine ea W hW _ _ _ _ _ _ _ _ _ _ _ _ R e3 fun v H1 R1 => ?_
  obtain ⟨P, O, R1⟩ := R1
  obtain ⟨P', O', R1⟩ := R1.takeV e4
  refine eb W hW _ _ _ _ _ _ _ _ _ _ _ _ ⟨P', O', R1⟩ e2 fun vs H2 P2 O2 R2 rp => ?_
  refine q (v :: vs) H2 P2 O2 R2.pop ?_
  simp only [Reps]
  exact ⟨v, vs, rfl, R2.temps.1, rp⟩
theorem d_callK {x : Str} {k n : Nat} {F : Fn G} {fa : M G (List D)} {kl : List (List Str × List Nat)} (ks : List Str) (pm : List Nat) (h : FDK C.prog C.w C.K C.mg C.base Fam k x n F kl) (ha : DKs C Fam kws fa) (hk : k ≤ C.room) (hq : (ks, pm) ∈ kl := by simp) (hn : pm.length = n := by rfl) (hne : kws ≠ [] := by simp) (hl : kws.length = ks.length := by rfl) (hn0 : n ≠ 0 := by decide)
    (hg : ∀ j, Gl (C.X j) x := by intro _; rfl) (hdb : (x == ("__debug__" : Str)) = false := by decide) (hall : ∀ j, (backToKw pos (keywordEach kws (C.X j).env)).all (·.1.isSome) = true := by intro _; rfl) (hks : ∀ j, (backToKw pos (keywordEach kws (C.X j).env)).filterMap (·.1) = ks := by intro _; rfl)
    (hpl : ∀ j, ((backTo pos (starEach [] (C.X j).env)).any (·.1) || (backToKw pos (keywordEach kws (C.X j).env)).any (·.1.isNone)) = false := by intro _; rfl) : DE C Fam (.Call (.Name x p) [] kws pos) (mCallK pm F fa) := by
  obtain ⟨f, fd, ps, a, b, c, dd, hps, hkw⟩ := h.ex
  obtain ⟨ta, pa, ea⟩ := ha.ex
  have hb := hkw _ hq
  refine ⟨_, fun j => DZ.pe_callGK (g := perm .none ks.length pm) (gV := perm .non ks.length pm) (by rw [C.hP, C.hw, C.hK, C.hmg, C.hbase]; exact a) ((C.hr j).mono hk) (C.hgd j) (hg j) (by rw [C.hmg]; exact b) (by rw [C.hK]; exact c) (fun s ws hin hlen => ?_) (fun r => vals_perm _ pm r) (pass0 (X := C.X j)) (pa j) (hall j) (hks j) hdb (hpl j) hne, fun W hW P₀ H₀ σ st τ ts H g r st' g' Q R h q => ?_⟩
  · rw [C.hK] at hin
    have : ws.length = ks.length := by
      by_cases hw : ws.length = ks.length
      · exact hw
      · unfold perm at hlen
        rw [if_neg hw] at hlen
        simp at hlen
        rw [hps] at hlen
        exact absurd hlen.symm hn0
    unfold perm
    rw [if_pos this]
    exact hb s ws hin this
  · obtain ⟨ds, st1, g1, e1, h⟩ := bnd_eq h
    obtain ⟨⟨d, g2⟩, e2, h⟩ := Option.map_eq_some_iff.mp h
    simp only [Prod.mk.injEq] at h; obtain ⟨rfl, rfl, rfl⟩ := h
    refine ea W hW _ _ _ _ _ _ _ _ _ _ _ _ R e1 fun vs H1 P O R1 rp => ?_
    have hlen : ds.length = ks.length := (ha.len _ _ _ _ _ e1).trans hl
    have e3 : perm V.non ks.length pm vs = pm.map fun i => vs.getD i .non := by
      unfold perm
      rw [if_pos (by rw [rp.length]; exact hlen)]
    rw [e3]
    exact ⟨W, P, permD pm ds, g1, d, g2, hW, by rw [List.length_map]; exact hn, R1.ent, reps_perm rp pm, e2, fun v H' P' o rv => q v H' ⟨P', O, (R1.out o).push rv⟩⟩
end
end DL
namespace DL
open PySem PySem.Spec PyProof.Rows L2
variable {G : Type}
/-! ### a value that is shared from now on -/
def mShr (f : M G S) : M G S := fun st g => bnd (mTake f st g) fun d st g => some (.sh d, st, g)
theorem EvE.shr {K : PySem.W.Frag} {W : Wd G} {t : TE} {f : M G S} (h : EvE K W t f) : EvE K W t (mShr f) := by
  intro P₀ H₀ σ st τ ts H g z st' g' Q R e q
  obtain ⟨d, st1, g1, e1, e⟩ := bnd_eq e
  simp only [Option.some.injEq, Prod.mk.injEq] at e; obtain ⟨rfl, rfl, rfl⟩ := e
  obtain ⟨x, st0, e3, e4⟩ := mTake_eq e1
  refine h _ _ _ _ _ _ _ _ _ _ _ _ R e3 fun v H1 R1 => q v H1 ?_
  obtain ⟨P, O, R1⟩ := R1
  obtain ⟨P', O', R2⟩ := R1.takeV e4
  exact ⟨P', O', R2⟩
section
variable {C : CF} {Fam : Wd G → Prop} {e : Expr} {s : Stmt} {f : M G S}
theorem d_shr (h : DE C Fam e f) : DE C Fam e (mShr f) := let ⟨t, p, q⟩ := h.ex; ⟨t, p, fun W hW => (q W hW).shr⟩
theorem DS.shr {i : Nat} (h : DS C Fam s (mSet i f)) : DS C Fam s (mSet i (mShr f)) := by
  obtain ⟨t, p, q0⟩ := h.ex
  refine ⟨t, p, fun W hW P₀ H₀ σ st τ ts H g fl st' g' E n R h q => ?_⟩
  obtain ⟨x, st1, g1, e1, h⟩ := bnd_eq h
  obtain ⟨d, st2, g2, e2, e3⟩ := bnd_eq e1
  simp only [Option.some.injEq, Prod.mk.injEq] at e3; obtain ⟨rfl, rfl, rfl⟩ := e3
  obtain ⟨y, st0, e4, e5⟩ := mTake_eq e2
  split at h
  · rename_i hi
    simp only [Option.some.injEq, Prod.mk.injEq] at h; obtain ⟨rfl, rfl, rfl⟩ := h
    cases y with
    | sh d' =>
      cases e5
      exact q0 W hW _ _ _ _ _ _ _ _ _ _ _ _ n R (by unfold mSet; rw [e4, bnd_some, if_pos hi]) q
    | «at» j =>
      have hi' : i < st0.length := by
        simp only [take] at e5
        split at e5
        · cases e5; exact hi
        · cases e5; simpa using hi
        · cases e5
      exact q0 W hW _ _ _ _ _ _ _ _ _ _ _ _ n R (by unfold mSet; rw [e4, bnd_some, if_pos hi']; simp only [e5, Option.map_some]) q
    | any => cases e5
    | ow d' =>
      cases e5
      refine q0 W hW _ _ _ _ _ _ _ _ .nx (st2.set i (some (.ow d))) _ _ n R (by unfold mSet; rw [e4, bnd_some, if_pos hi]) ?_
      intro σ' H' R'
      obtain ⟨P, O, R'⟩ := R'
      have hs : (st2.set i (some (.ow d)))[i]? = some (some (.ow d)) := by rw [List.getElem?_set_self hi]
      obtain ⟨v, ev, _, _⟩ := R'.slot hs
      have R1 := R'.pushS (v := v) (s := .at i) ev
      obtain ⟨P', O', R2⟩ := R1.takeV (d := d) (st' := st2.set i (some (.sh d))) (by simp only [take, hs, List.set_set])
      exact q _ _ ⟨P', O', R2.pop⟩
  · cases h
end
end DL
/-! DX5: sets whose things are tuples of any depth. -/
namespace DX
open PySem PySem.Spec PyProof.Rows L2
mutual
/-- whether the hash hangs on the value alone -/
def byv : NestedKey → Bool
  | .none => true
  | .num _ => true
  | .text _ => false
  | .tup ks => byvs ks
def byvs : List NestedKey → Bool
  | [] => true
  | k :: ks => byv k && byvs ks
end
section
variable {P : Program} {w : World} {E : Value → Shared → Prop}
mutual
theorem hby : ∀ (k : NestedKey) (v : Value) (n : Nat) (A : Around) (s : Shared) (Q : Bool → Shared → Prop), NestedIs s.heap k v → k.depth ≤ n → Q (byv k) s → wpAny (model P w) A (hashByValue n v) Q E s
  | .none, _, n, A, s, Q, x, _, q => by cases x; cases n <;> exact wpAny_pure q
  | .num _, _, n, A, s, Q, x, _, q => by cases x <;> (cases n <;> exact wpAny_pure q)
  | .text _, _, n, A, s, Q, x, _, q => by cases x; cases n <;> exact wpAny_pure q
  | .tup ks, _, n, A, s, Q, x, hn, q => by
    cases x with
    | @tup a o vs m _ h1 h2 h3 h4 =>
      simp only [NestedKey.depth] at hn
      cases n with
      | zero => omega
      | succ n =>
        unfold hashByValue
        refine wpAny_bind (wpAny_specialOf (s := s) ⟨o, h1, h2⟩ F.slot_tuple_hash.lookup ?_)
        show wpAny _ _ (seqItems? (.ref a) >>= _) _ _ s
        refine wpAny_bind (wpAny_seqItems h1 h3 (wpAny_bind ?_))
        show wpAny _ _ (forIn vs _ _) _ _ s
        rw [← Array.forIn_toList]
        refine hbys ks vs.toList n A s _ h4 (by omega) (fun e => ?_) (fun e => ?_)
        · exact wpAny_pure (by simpa only [byv, e] using q)
        · exact wpAny_pure (by simpa only [byv, e] using q)
theorem hbys : ∀ (ks : List NestedKey) (vs : List Value) (n : Nat) (A : Around) (s : Shared) (Q : Option Bool × PUnit → Shared → Prop), NestedAll s.heap ks vs → NestedKey.depthAll ks ≤ n → (byvs ks = true → Q (none, ⟨⟩) s) → (byvs ks = false → Q (some false, ⟨⟩) s) →
    wpAny (model P w) A (forIn vs (none, PUnit.unit) fun x _ => do
      if (!(← hashByValue n x)) = true then pure (ForInStep.done (some false, PUnit.unit)) else do pure PUnit.unit; pure (ForInStep.yield (none, PUnit.unit))) Q E s
  | [], _, n, A, s, Q, x, _, q, _ => by cases x; exact wpAny_pure (q rfl)
  | k :: ks, _, n, A, s, Q, x, hn, q, q2 => by
    cases x with
    | cons x1 x2 =>
      simp only [NestedKey.depthAll] at hn
      rw [List.forIn_cons]
      refine wpAny_bind (wpAny_bind (hby k _ n A s _ x1 (by omega) ?_))
      cases e : byv k with
      | true =>
        simp only [Bool.not_true, Bool.false_eq_true, if_false]
        refine wpAny_bind (wpAny_pure (wpAny_pure ?_))
        exact hbys ks _ n A s Q x2 (by omega) (fun e2 => q (by simp only [byvs, e, e2, Bool.and_self])) (fun e2 => q2 (by simp only [byvs, e2, Bool.and_false]))
      | false =>
        simp only [Bool.not_false, if_true]
        exact wpAny_pure (wpAny_pure (q2 (by simp only [byvs, e, Bool.false_and])))
end
mutual
theorem noCls : ∀ (k : NestedKey) (v : Value) (n : Nat) (A : Around) (s : Shared) (Q : Bool → Shared → Prop), NestedIs s.heap k v → k.depth ≤ n → Q false s → wpAny (model P w) A (ofAClassStatement n v) Q E s
  | .none, _, n, A, s, Q, x, _, q => by cases x; cases n <;> exact wpAny_pure q
  | .num _, _, n, A, s, Q, x, _, q => by cases x <;> (cases n <;> exact wpAny_pure q)
  | .text _, _, n, A, s, Q, x, _, q => by cases x; cases n <;> exact wpAny_pure q
  | .tup ks, _, n, A, s, Q, x, hn, q => by
    cases x with
    | @tup a o vs m _ h1 h2 h3 h4 =>
      simp only [NestedKey.depth] at hn
      cases n with
      | zero => omega
      | succ n =>
        unfold ofAClassStatement
        refine wpAny_bind (wpAny_typeOf (s := s) (T := "tuple") ⟨o, h1, h2⟩ ?_)
        have yes : (("tuple" : String) == "tuple") = true := by decide
        simp only [yes, if_true]
        refine wpAny_bind (wpAny_pure ?_)
        simp only [Bool.not_true, Bool.false_eq_true, if_false]
        show wpAny _ _ (seqItems? (.ref a) >>= _) _ _ s
        refine wpAny_bind (wpAny_seqItems h1 h3 ?_)
        dsimp only
        refine wpAny_bind ?_
        show wpAny _ _ (forIn vs _ _) _ _ s
        rw [← Array.forIn_toList]
        exact noClss ks vs.toList n A s _ h4 (by omega) (wpAny_pure q)
theorem noClss : ∀ (ks : List NestedKey) (vs : List Value) (n : Nat) (A : Around) (s : Shared) (Q : Option Bool × PUnit → Shared → Prop), NestedAll s.heap ks vs → NestedKey.depthAll ks ≤ n → Q (none, ⟨⟩) s →
    wpAny (model P w) A (forIn vs (none, PUnit.unit) fun x _ => do
      if (← ofAClassStatement n x) = true then pure (ForInStep.done (some true, PUnit.unit)) else do pure PUnit.unit; pure (ForInStep.yield (none, PUnit.unit))) Q E s
  | [], _, n, A, s, Q, x, _, q => by cases x; exact wpAny_pure q
  | k :: ks, _, n, A, s, Q, x, hn, q => by
    cases x with
    | cons x1 x2 =>
      simp only [NestedKey.depthAll] at hn
      rw [List.forIn_cons]
      refine wpAny_bind (wpAny_bind (noCls k _ n A s _ x1 (by omega) ?_))
      simp only [Bool.false_eq_true, if_false]
      refine wpAny_bind (wpAny_pure (wpAny_pure ?_))
      exact noClss ks _ n A s Q x2 (by omega) q
end
/-- a thing of the set -/
def NK (h : Heap) (v : Value) (k : NestedKey) : Prop := (∃ a, v = .ref a) ∧ NestedIs h k v ∧ k.depth ≤ 8
/-- the search for a tuple among tuples tells nothing -/
theorem unseen {A : Around} {s : Shared} {v : Value} {k : NestedKey} {Q : Bool → Shared → Prop} (hv : NK s.heap v k) : ∀ {ys : List Value}, (∀ y ∈ ys, ∃ k', NK s.heap y k') → Q false s → wpAny (model P w) A (searchCouldBeSeen v ys) Q E s := by
  intro ys hy q
  obtain ⟨⟨b, rfl⟩, nk, nd⟩ := hv
  unfold searchCouldBeSeen
  refine wpAny_bind (wpAny_forIn_list _ (fun rest r s' => r.1 = none ∧ s' = s ∧ ∀ y ∈ rest, ∃ k', NK s.heap y k') _ ?turn ?fin _ _ ⟨rfl, rfl, hy⟩)
  case turn =>
    rintro y rest r s' ⟨_, rfl, all⟩
    obtain ⟨k', ⟨c, rfl⟩, ck, cd⟩ := all y List.mem_cons_self
    have more : ∀ z ∈ rest, ∃ k', NK s'.heap z k' := fun z hz => all z (List.mem_cons_of_mem _ hz)
    dsimp only
    by_cases hc : (b == c || (carriedByValue (.ref b) && carriedByValue (.ref c))) = true
    · exact wp_if_pos hc (wpAny_pure ⟨rfl, rfl, more⟩)
    · refine wp_if_neg hc (wpAny_bind (quiet_key k _ 8 s' nk nd _ _ _ ?_))
      refine wp_if_neg (by decide) (wpAny_bind (quiet_key k' _ 8 s' ck cd _ _ _ ?_))
      refine wp_if_neg (by decide) (wpAny_bind (noCls k _ 8 _ s' _ nk nd ?_))
      refine wp_if_neg (by decide) (wpAny_bind (noCls k' _ 8 _ s' _ ck cd ?_))
      exact wp_if_neg (by decide) (wpAny_pure ⟨rfl, rfl, more⟩)
  case fin =>
    rintro ⟨r1, r2⟩ s' ⟨e, rfl, _⟩
    cases e
    exact wpAny_pure q
end
end DX
namespace DX
open PySem PySem.Spec PyProof.Rows L2
/-- the things of a set as it keeps them -/
def kept (w : World) (L : List (Value × NestedKey)) : List (Int × Value) := L.map fun p => (p.2.hash w, p.1)
def hsOf (w : World) (L : List (Value × NestedKey)) : List Int := L.map fun p => p.2.hash w
structure NS (w : World) (h : Heap) (S : Addr) (L : List (Value × NestedKey)) (es : Array (Int × Value)) (ep : Nat) (t : SetTable) : Prop where
  ob : ∃ o, h.get? S = some o ∧ o.ExactSet ∧ o.data = .set es ep t
  eq : es.toList = kept w L
  tab : TabOk t (hsOf w L)
  nd : (L.map (·.2)).Nodup
  el : ∀ p ∈ L, NK h p.1 p.2
  led : w.params.followText "set-order" = true ∨ t.led = true
  room : L.length * 5 < t.mask * 3
  few : L.length < 64
section
variable {P : Program} {w : World} {A : Around} {E : Value → Shared → Prop} {s : Shared} {S : Addr} {L : List (Value × NestedKey)} {es : Array (Int × Value)} {ep : Nat} {t : SetTable} {x : Value} {k : NestedKey}
theorem kept_len (w : World) (L : List (Value × NestedKey)) : (kept w L).length = L.length := List.length_map ..
theorem hs_len (w : World) (L : List (Value × NestedKey)) : (hsOf w L).length = L.length := List.length_map ..
theorem size_of (e : es.toList = kept w L) : es.size = L.length := by rw [← Array.length_toList, e, kept_len]
theorem entry_of (e : es.toList = kept w L) {i : Nat} {p : Value × NestedKey} (h : L[i]? = some p) : es[i]? = some (p.2.hash w, p.1) := by
  rw [← Array.getElem?_toList, e, kept, List.getElem?_map, h]; rfl
theorem fits_of {h : Heap} (e : es.toList = kept w L) (T : TabOk t (hsOf w L)) (hm : L.length ≤ t.mask) : t.fits es.size = true := by
  have a := T.sz
  rw [hs_len] at a
  have b := size_of e
  simp only [SetTable.fits, SetTable.fill, T.dm, Bool.and_eq_true, beq_iff_eq, decide_eq_true_eq]
  constructor
  · omega
  · show t.place.size + 0 ≤ t.mask; omega
theorem NS.fits (R : NS w s.heap S L es ep t) : t.fits es.size = true := fits_of (h := s.heap) R.eq R.tab (by have := R.room; omega)
theorem NS.odd (R : NS w s.heap S L es ep t) : ¬ t.gaveWay = true := by
  simp only [SetTable.gaveWay, mask_odd R.tab.mok]
  decide
abbrev stepAt (t : SetTable) (h : Int) (c : Nat) : SetTable.Probe := nth t.mask (runAt t.mask (SetTable.bits h % (t.mask + 1)) (SetTable.bits h)) c
theorem no_dummy (m : Nat) : ∀ (n : Nat) (p : SetTable.Probe), p.dummy = none → (nth m p n).dummy = none
  | 0, _, h => h
  | n + 1, p, h => no_dummy m n (adv m p) (by unfold adv; split <;> exact h)
/-- what the probe meets from the c-th step on -/
theorem met (R : NS w s.heap S L es ep t) {h : Int} {K c : Nat} (big : K < 10 * SetTable.turns t.mask) (out : way t.mask h K ∉ t.place.toList) (inn : ∀ j, j < K → way t.mask h j ∈ t.place.toList) (hc : c ≤ K) :
    (∃ (d i : Nat) (p : Value × NestedKey), c ≤ d ∧ d < K ∧ t.place.toList[i]? = some (way t.mask h d) ∧ L[i]? = some p ∧ (∀ (c' i' : Nat) (p' : Value × NestedKey), c ≤ c' → c' < d → t.place.toList[i']? = some (way t.mask h c') → L[i']? = some p' → p'.2.hash w ≠ h) ∧
      t.probe (fun i => (es[i]?.map (·.1)).getD 0) h (stepAt t h c) = some (.candidate (way t.mask h d) i (stepAt t h (d + 1)))) ∨
    ((∀ (c' i' : Nat) (p' : Value × NestedKey), c ≤ c' → c' < K → t.place.toList[i']? = some (way t.mask h c') → L[i']? = some p' → p'.2.hash w ≠ h) ∧ t.probe (fun i => (es[i]?.map (·.1)).getD 0) h (stepAt t h c) = some (.empty (way t.mask h K) none)) := by
  have go : ∀ q, nth t.mask (stepAt t h c) q = stepAt t h (c + q) := fun q => (nth_add t.mask c _ q).symm
  have hash : ∀ (i' : Nat) (p' : Value × NestedKey), L[i']? = some p' → (es[i']?.map (·.1)).getD 0 = p'.2.hash w := fun i' p' e => by rw [entry_of R.eq e]; rfl
  have spec := go_spec t R.tab.ris R.tab.dm (fun i => (es[i]?.map (·.1)).getD 0) h (10 * SetTable.turns t.mask) (K - c) (stepAt t h c) (no_dummy _ _ _ rfl) (by omega)
    (fun q hq => by rw [go]; exact inn _ (by omega)) (by rw [go, Nat.add_sub_cancel' hc]; exact out)
  rcases spec with ⟨q, i, hq, hi, hh, hno, hp⟩ | ⟨hno, hp⟩
  · rw [go] at hi hp
    rw [go] at hp
    have hil : i < L.length := by
      have a := (List.getElem?_eq_some_iff.mp hi).1
      have b := R.tab.sz
      rw [hs_len] at b
      rw [Array.length_toList] at a
      omega
    exact .inl ⟨c + q, i, L[i], by omega, by omega, hi, List.getElem?_eq_getElem hil, fun c' i' p' h1 h2 h3 h4 e => hno (c' - c) i' (by omega) (by rw [go, Nat.add_sub_cancel' h1]; exact h3) (by rw [hash i' p' h4]; exact e), hp⟩
  · rw [go, Nat.add_sub_cancel' hc] at hp
    exact .inr ⟨fun c' i' p' h1 h2 h3 h4 e => hno (c' - c) i' (by omega) (by rw [go, Nat.add_sub_cancel' h1]; exact h3) (by rw [hash i' p' h4]; exact e), hp⟩
/-- the search, from the c-th step on -/
theorem seek (R : NS w s.heap S L es ep t) (hx : NK s.heap x k) (hu : A.units + 20 < cLine) {K : Nat} (big : K < 10 * SetTable.turns t.mask) (out : way t.mask (k.hash w) K ∉ t.place.toList)
    (inn : ∀ j, j < K → way t.mask (k.hash w) j ∈ t.place.toList) {Q : SetFound → Shared → Prop} (yes : k ∈ L.map (·.2) → Q (.there none) s) (no : k ∉ L.map (·.2) → Q (.free (way t.mask (k.hash w) K) false) s) :
    ∀ (f c : Nat) (st : Option SetTable.Probe), st.getD (t.probeStart (k.hash w)) = stepAt t (k.hash w) c → c ≤ K → K < f + c →
      (∀ (i : Nat) p, L[i]? = some p → p.2 = k → ∃ c', c ≤ c' ∧ c' < K ∧ t.place.toList[i]? = some (way t.mask (k.hash w) c')) → wpAny (model P w) A (setSearchFrom S x (k.hash w) true f st) Q E s := by
  intro f
  induction f with
  | zero => intro c st _ h1 h2; omega
  | succ f ih =>
    intro c st est hc hf all
    obtain ⟨o, ob1, ob2, ob3⟩ := R.ob
    rw [setSearchFrom_succ]
    refine wpAny_bind (wpAny_setState_of ob1 ob3 R.fits (wp_if_neg R.odd ?_))
    try refine wpAny_bind (wpAny_pure ?_)
    rw [est]
    rcases met R big out inn hc with ⟨d, i, p, hd, hdK, hi, hp, before, e⟩ | ⟨before, e⟩
    · rw [e]
      dsimp only
      have pk := R.el p (List.mem_of_getElem? hp)
      have then_ : wpAny (model P w) A (searchRest S x (k.hash w) true f es t (way t.mask (k.hash w) d) i (stepAt t (k.hash w) (d + 1))) Q E s := by
        unfold searchRest
        rw [entry_of R.eq hp]
        dsimp only
        obtain ⟨⟨pa, hpa⟩, pn, pd⟩ := pk
        obtain ⟨⟨xa, hxa⟩, xn, xd⟩ := hx
        refine wpAny_bind (wpAny_holding (eqAt_key p.2 k A s _ _ pn xn (by omega) _ _ _ _ ?_))
        rw [← NestedKey.decide_eq]
        refine wpAny_bind (wpAny_setState_of ob1 ob3 R.fits ?_)
        dsimp only
        by_cases same : p.2 = k
        · exact wp_if_pos (by simp [same]) (wpAny_pure (yes (List.mem_map.mpr ⟨p, List.mem_of_getElem? hp, same⟩)))
        · refine wp_if_neg (by simp [same]) ?_
          try refine wpAny_bind (wpAny_pure ?_)
          rw [sameMem]
          dsimp only
          have live : t.slot (way t.mask (k.hash w) d) = .live i := slot_live R.tab.ris hi
          simp only [if_true, live, entry_of R.eq hp]
          rw [hpa]
          refine wpAny_bind (wpAny_isSame_ref_self (wpAny_bind (wpAny_pure ?_)))
          simp only [if_true]
          refine wp_if_neg (by simp [same]) ?_
          refine ih (d + 1) _ rfl (by omega) (by omega) fun i0 p0 e0 ek => ?_
          obtain ⟨c', a1, a2, a3⟩ := all i0 p0 e0 ek
          refine ⟨c', ?_, a2, a3⟩
          rcases Nat.lt_trichotomy c' d with z | z | z
          · exact absurd (by rw [ek]) (before c' i0 p0 a1 z a3 e0)
          · subst z
            have l0 := slot_live R.tab.ris a3
            rw [live] at l0
            injection l0 with l0
            subst l0
            rw [hp] at e0
            cases e0
            exact absurd ek same
          · omega
      by_cases hl : t.led = true
      · refine wp_if_neg (by simp [hl]) ?_
        try refine wpAny_bind (wpAny_pure ?_)
        exact then_
      · refine wp_if_pos (by simp [hl]) (wpAny_bind (unseen hx (fun y hy => ?_) (wp_if_neg (by decide) ?_)))
        · obtain ⟨z, hz, rfl⟩ := List.mem_map.mp hy
          have hz1 : z ∈ es.toList := by
            have : z ∈ es ∧ z.1 = k.hash w := by simpa using hz
            simpa using this.1
          rw [R.eq] at hz1
          obtain ⟨p2, hp2, rfl⟩ := List.mem_map.mp hz1
          exact ⟨p2.2, R.el p2 hp2⟩
        · try refine wpAny_bind (wpAny_pure ?_)
          exact then_
    · rw [e]
      dsimp only
      refine wpAny_pure (no fun hm => ?_)
      obtain ⟨p0, m0, ek⟩ := List.mem_map.mp hm
      obtain ⟨i0, e0⟩ := List.getElem?_of_mem m0
      obtain ⟨c', a1, a2, a3⟩ := all i0 p0 e0 ek
      exact before c' i0 p0 a1 a2 a3 e0 (by rw [ek])
theorem seek0 (R : NS w s.heap S L es ep t) (hx : NK s.heap x k) (hu : A.units + 20 < cLine) {Q : SetFound → Shared → Prop} (yes : k ∈ L.map (·.2) → Q (.there none) s)
    (no : ∀ K, k ∉ L.map (·.2) → way t.mask (k.hash w) K ∉ t.place.toList → (∀ j, j < K → way t.mask (k.hash w) j ∈ t.place.toList) → Q (.free (way t.mask (k.hash w) K) false) s) :
    wpAny (model P w) A (setSearch S x (k.hash w) true) Q E s := by
  obtain ⟨K, big, out, inn⟩ := R.tab.first (by rw [hs_len]; have := R.room; omega) (k.hash w)
  have lim : K < 100000 := by
    rcases R.tab.mok with e | e | e <;> (rw [e] at big; unfold SetTable.turns at big; omega)
  unfold setSearch
  refine seek R hx hu big out inn yes (fun hn => no K hn out inn) 100000 0 none rfl (Nat.zero_le _) (by omega) fun i p hp ek => ?_
  have hil : i < t.place.toList.length := by
    have a := (List.getElem?_eq_some_iff.mp hp).1
    have b := R.tab.sz
    rw [hs_len] at b
    rw [Array.length_toList]; omega
  have hj := List.getElem?_eq_getElem hil
  have hh : (hsOf w L)[i]? = some (k.hash w) := by rw [hsOf, List.getElem?_map, hp, ← ek]; rfl
  obtain ⟨c, hc, e⟩ := R.tab.before out hh hj
  exact ⟨c, Nat.zero_le _, hc, by rw [hj, e]⟩
end
end DX
namespace DX
open PySem PySem.Spec PyProof.Rows L2
theorem pick_all {α : Type} (L : List α) : (List.range L.length).filterMap (fun i => L[i]?) = L := by
  have : ∀ n, n ≤ L.length → (List.range n).filterMap (fun i => L[i]?) = L.take n := by
    intro n
    induction n with
    | zero => intro _; rfl
    | succ n ih =>
      intro h
      rw [List.range_succ, List.filterMap_append, ih (by omega), List.take_add_one]
      have e : L[n]? = some L[n] := List.getElem?_eq_getElem (by omega)
      simp [e]
  rw [this _ (Nat.le_refl _), List.take_length]
section
variable {P : Program} {w : World} {A : Around} {E : Value → Shared → Prop} {s : Shared} {S : Addr} {L : List (Value × NestedKey)} {es : Array (Int × Value)} {ep : Nat} {t : SetTable} {x : Value} {k : NestedKey}
theorem pick_kept (e : es.toList = kept w L) (l : List Nat) : l.filterMap (fun i => es[i]?) = kept w (l.filterMap fun i => L[i]?) := by
  have h : ∀ i, es[i]? = (L[i]?).map fun (p : Value × NestedKey) => (p.2.hash w, p.1) := fun i => by rw [← Array.getElem?_toList, e, kept, List.getElem?_map]
  unfold kept
  rw [List.map_filterMap]
  exact congrArg (fun f => l.filterMap f) (funext h)
theorem pick_hs (e : es.toList = kept w L) : ∀ l : List Nat, (∀ i ∈ l, i < L.length) → hsOf w (l.filterMap fun i => L[i]?) = l.map fun i => (es.map (·.1)).getD i 0
  | [], _ => rfl
  | i :: l, h => by
    have hlt : i < L.length := h i List.mem_cons_self
    have hi : L[i]? = some L[i] := List.getElem?_eq_getElem hlt
    have he : (es.map (·.1))[i]? = some ((L[i]).2.hash w) := by rw [Array.getElem?_map, entry_of e hi]; rfl
    rw [List.filterMap_cons_some hi, List.map_cons, ← pick_hs e l fun j hj => h j (List.mem_cons_of_mem _ hj), Array.getD_eq_getD_getElem?, he]
    rfl
theorem nk_same {h h' : Heap} {v : Value} {o : Obj} (x : NK h v k) (ho : h.get? S = some o) (hd : o.data = .set es ep t) (sb : Heap.SameBut S h h') : NK h' v k :=
  ⟨x.1, NestedIs.at (fun a u vs n e1 e2 => (sb.2 a fun z => by rw [z, ho] at e1; cases e1; rw [hd] at e2; cases e2).trans e1) k v x.2.1, x.2.2⟩
/-- the table, larger -/
theorem relay_ns {o : Obj} (ob : s.heap.get? S = some o) (ex : o.ExactSet) (od : o.data = .set es ep t) (eq : es.toList = kept w L) (T : TabOk t (hsOf w L)) (fl : L.length ≤ t.mask) (nd : (L.map (·.2)).Nodup) (el : ∀ p ∈ L, NK s.heap p.1 p.2)
    (ld : w.params.followText "set-order" = true ∨ t.led = true) (few : L.length < 64) {want m : Nat} (e1 : SetTable.sizeAbove want = m + 1) (mok : MaskOk m) (room : L.length * 5 < m * 3) {Q : Unit → Shared → Prop}
    (q : ∀ h' L' es' ep' t', Heap.SameBut S s.heap h' → NS w h' S L' es' ep' t' → L'.Perm L → Q () { s with heap := h' }) : wpAny (model P w) A (setRelay S want) Q E s := by
  have sz := size_of eq
  obtain ⟨t2, order, r, pm, T2, em, el2, _, _⟩ := relaid_ok t (hs := es.map (·.1)) (wanted := want) (M := m) (by omega) mok (by rw [Array.size_map]; omega)
  rw [Array.size_map, sz] at pm
  have inn : ∀ i ∈ order.toList, i < L.length := fun i hi => List.mem_range.mp (pm.mem_iff.mp hi)
  obtain ⟨L2, hL2⟩ : ∃ L2, L2 = order.toList.filterMap fun i => L[i]? := ⟨_, rfl⟩
  have k2 : (order.filterMap (es[·]?)).toList = kept w L2 := by rw [hL2, ← pick_kept eq]; first | exact Array.toList_filterMap .. | simp
  have p2 : L2.Perm L := by
    have := pm.filterMap fun i => L[i]?
    rw [pick_all] at this
    rw [hL2]; exact this
  have h2 : hsOf w L2 = order.toList.map fun i => (es.map (·.1)).getD i 0 := by rw [hL2]; exact pick_hs eq _ inn
  rw [← h2] at T2
  have s2 : (order.filterMap (es[·]?)).size = es.size := by rw [size_of k2, p2.length_eq, sz]
  have few2 : m ≤ 127 := by rcases mok with e | e | e <;> omega
  rw [setRelay_eq]
  refine wpAny_bind (wpAny_setState_of ob od (fits_of (h := s.heap) eq T fl) ?_)
  refine wp_if_neg (by rw [sizeLine_eq]; omega) ?_
  try refine wpAny_bind (wpAny_pure ?_)
  rw [r]
  refine wpAny_bind (wp_if_neg (by rw [s2]; simp) ?_)
  try refine wpAny_bind (wpAny_pure ?_)
  refine wpAny_pure (wpAny_storeSet_of ob od ?_ (by rw [s2, sz, sizeLine_eq]; omega))
  have sb : Heap.SameBut S s.heap (s.heap.update S (Obj.putSet (order.filterMap (es[·]?)) t2)) := Heap.SameBut.update ..
  exact q _ L2 _ _ t2 sb ⟨⟨_, store_at ob od, ⟨ex.1, ex.2.1, ex.2.2⟩, rfl⟩, k2, T2, (p2.map (·.2)).nodup_iff.mpr nd, fun p hp => nk_same (el p (p2.mem_iff.mp hp)) ob od sb, by rw [el2]; exact ld, by rw [p2.length_eq, em]; exact room, by rw [p2.length_eq]; exact few⟩ p2
/-- a thing is put in -/
theorem add_ns (R : NS w s.heap S L es ep t) (hx : NK s.heap x k) (hu : A.units + 20 < cLine) (few : L.length + 1 < 64) {Q : Bool → Shared → Prop}
    (q : ∀ b h' L' es' ep' t', Heap.SameBut S s.heap h' → NS w h' S L' es' ep' t' → (k ∈ L.map (·.2) → L' = L) → (k ∉ L.map (·.2) → L'.Perm ((x, k) :: L)) → Q b { s with heap := h' }) :
    wpAny (model P w) A (setAddHashed S x (k.hash w)) Q E s := by
  obtain ⟨o, ob, ex, od⟩ := R.ob
  have sz := size_of R.eq
  have room := R.room
  unfold setAddHashed
  rw [show (100000 : Nat) = 99999 + 1 from rfl, setAddHashedIn_succ]
  have nosc : ¬ byScan x es = true := by
    obtain ⟨⟨a, rfl⟩, _⟩ := hx
    simp [byScan, Value.scannable]
  refine wpAny_holding (wpAny_bind (wpAny_setState_of ob od R.fits (wp_if_neg nosc ?_)))
  try refine wpAny_bind (wpAny_pure ?_)
  refine wpAny_bind (seek0 R hx hu (fun hm => ?_) fun K hm out inn => ?_)
  · exact wpAny_pure (q false s.heap L es ep t (Heap.SameBut.refl S s.heap) R (fun _ => rfl) fun z => absurd hm z)
  · refine wpAny_bind (wpAny_setState_of ob od R.fits ?_)
    dsimp only
    obtain ⟨a1, a2, a3, a4, a5, _, _, _, a9⟩ := R.tab.put out inn
    generalize t.put (way t.mask (k.hash w) K) = tp at a1 a3 a4 a5 a9 ⊢
    obtain ⟨t1, n⟩ := tp
    dsimp only at a1 a3 a4 a5 a9 ⊢
    subst a1
    generalize SetTable.below t.place (way t.mask (k.hash w) K) = n at a2 a3 ⊢
    rw [hs_len] at a2 a9
    obtain ⟨L1, hL1⟩ : ∃ L1, L1 = L.take n ++ (x, k) :: L.drop n := ⟨_, rfl⟩
    have pm : L1.Perm ((x, k) :: L) := by rw [hL1]; exact put_perm L n (x, k)
    have len1 : L1.length = L.length + 1 := pm.length_eq
    have k1 : (SetTable.insertAt es n (k.hash w, x)).toList = kept w L1 := by
      rw [SetTable.toList_insertAt, R.eq, hL1]
      simp only [kept, List.map_append, List.map_cons, List.map_take, List.map_drop]
    have h1 : hsOf w L1 = (hsOf w L).take n ++ k.hash w :: (hsOf w L).drop n := by rw [hL1]; simp only [hsOf, List.map_append, List.map_cons, List.map_take, List.map_drop]
    rw [← h1] at a3
    have nd1 : (L1.map (·.2)).Nodup := (pm.map (·.2)).nodup_iff.mpr (List.nodup_cons.mpr ⟨hm, R.nd⟩)
    generalize SetTable.insertAt es n (k.hash w, x) = es1 at k1 ⊢
    have sz1 := size_of k1
    -- the table with its mark
    have fin : ∀ t2 : SetTable, TabOk t2 (hsOf w L1) → t2.mask = t.mask → t2.led = t.led → (t2.tooFull = true ↔ (L.length + 1) * 5 ≥ t.mask * 3) →
        wpAny (model P w) A (do
          storeSet S es1 t2
          if (!false && t2.tooFull) = true then setRelay S (SetTable.grown (es.size + 1))
          pure true) Q E s := fun t2 T2 em eled full => by
      have sb : Heap.SameBut S s.heap (s.heap.update S (Obj.putSet es1 t2)) := Heap.SameBut.update ..
      have ob1 := store_at (es' := es1) (t' := t2) ob od
      refine wpAny_bind (wpAny_storeSet_of ob od ?_ (by rw [sz1, sizeLine_eq]; omega))
      generalize s.heap.update S (Obj.putSet es1 t2) = hp at sb ob1 ⊢
      have el1 : ∀ p ∈ L1, NK hp p.1 p.2 := fun p hp' => by
        rcases List.mem_cons.mp (pm.mem_iff.mp hp') with e | m
        · rw [e]; exact nk_same hx ob od sb
        · exact nk_same (R.el p m) ob od sb
      have ld1 : w.params.followText "set-order" = true ∨ t2.led = true := by rw [eled]; exact R.led
      by_cases hf : t2.tooFull = true
      · have hfull := full.mp hf
        have two : (t.mask = 7 ∧ L.length = 4) ∨ (t.mask = 31 ∧ L.length = 18) := by
          rcases R.tab.mok with e | e | e <;> (rw [e] at hfull room; omega)
        have lay : ∀ m, SetTable.sizeAbove (SetTable.grown (L.length + 1)) = m + 1 → MaskOk m → (L.length + 1) * 5 < m * 3 → wpAny (model P w) A (setRelay S (SetTable.grown (L.length + 1))) (fun _ s' => wpAny (model P w) A (pure true) Q E s') E { s with heap := hp } := fun m e mok r =>
          relay_ns (s := { s with heap := hp }) ob1 ⟨ex.1, ex.2.1, ex.2.2⟩ rfl k1 T2 (by rw [len1, em]; omega) nd1 el1 ld1 (by omega) e mok (by rw [len1]; exact r)
            fun h2 L2 es2 ep2 t3 sb2 R2 pm2 => wpAny_pure (q true h2 L2 es2 ep2 t3 (sb.trans sb2) R2 (fun z => absurd z hm) fun _ => pm2.trans pm)
        rw [sz]
        refine wp_if_pos (by simp [hf]) (wpAny_bind ?_)
        rcases two with ⟨_, e⟩ | ⟨_, e⟩
        · exact lay 31 (by rw [e, size_20]) (.inr (.inl rfl)) (by omega)
        · exact lay 127 (by rw [e, size_76]) (.inr (.inr rfl)) (by omega)
      · refine wp_if_neg (by simp [hf]) ?_
        try refine wpAny_bind (wpAny_pure ?_)
        refine wpAny_pure (q true hp L1 es1 _ t2 sb ⟨⟨_, ob1, ⟨ex.1, ex.2.1, ex.2.2⟩, rfl⟩, k1, T2, nd1, el1, ld1, ?_, by omega⟩ (fun z => absurd z hm) fun _ => pm)
        have : ¬ (L.length + 1) * 5 ≥ t.mask * 3 := fun z => hf (full.mpr z)
        rw [len1, em]; omega
    have full1 : t1.tooFull = true ↔ (L.length + 1) * 5 ≥ t.mask * 3 := by
      unfold SetTable.tooFull
      rw [decide_eq_true_eq, a9, a4]
    have T1 : TabOk { t1 with plain := false } (hsOf w L1) := ⟨a3.ris, a3.dm, a3.sz, a3.mok, a3.bd, a3.reach⟩
    have hb : ∀ (Q' : Bool → Shared → Prop), Q' (byv k) s → wpAny (model P w) A (hashByValue 8 x) Q' E s := fun Q' z => hby k x 8 A s Q' hx.2.1 hx.2.2 z
    by_cases pl : t1.plain = true
    · rw [if_pos pl]
      refine wpAny_bind (hb _ ?_)
      cases byv k with
      | true => exact fin t1 a3 a4 a5 full1
      | false => exact fin { t1 with plain := false } T1 a4 a5 full1
    · rw [if_neg pl]
      exact wpAny_bind (wpAny_pure (fin t1 a3 a4 a5 full1))
/-- the theory of sets of tuples -/
def thN (P : Program) (w : World) (S : Addr) (h0 : Heap) : Th P w NestedKey S h0 where
  I := fun h L => ∃ es ep t, NS w h S L es ep t ∧ ∀ p ∈ L, NK h0 p.1 p.2
  Ky := fun v k => NK h0 v k
  keep := fun h h' L ⟨es, ep, t, R, k0⟩ ks k => ⟨es, ep, t, ⟨let ⟨o, a, b⟩ := R.ob; ⟨o, ks o a, b⟩, R.eq, R.tab, R.nd, fun p hp => ⟨(k0 p hp).1, NestedIs.at (fun a o _ _ e _ => k a o e) _ _ (k0 p hp).2.1, (k0 p hp).2.2⟩, R.led, R.room, R.few⟩, k0⟩
  add := fun A E s v k L Q hu hI hv hz hk hQ => by
    obtain ⟨es, ep, t, R, k0⟩ := hI
    have hx : NK s.heap v k := ⟨hv.1, NestedIs.at (fun a o _ _ e _ => hk a o e) _ _ hv.2.1, hv.2.2⟩
    unfold setAdd
    refine wpAny_holding (wpAny_bind (pyHash_key k v A s _ hx.2.1 (by have := hx.2.2; omega) ?_))
    refine add_ns (s := { s with toks := s.toks + k.draws }) R hx hu hz fun b h' L' es' ep' t' sb R' c1 c2 => hQ b h' (s.toks + k.draws) L' (Nat.le_add_right _ _) sb ⟨es', ep', t', R', fun p hp => ?_⟩ c1 c2
    by_cases c : k ∈ L.map (·.2)
    · rw [c1 c] at hp; exact k0 p hp
    · rcases List.mem_cons.mp ((c2 c).mem_iff.mp hp) with e | m
      · rw [e]; exact hv
      · exact k0 p m
end
end DX
namespace DX
open PySem PySem.Spec PyProof.Rows L2
mutual
theorem nested_of {h : Heap} : ∀ (k : NestedKey) (v : Value) (as : List Addr), Reads h v k.data as → NestedIs h k v
  | .none, _, _, r => by cases r; exact .none
  | .num i, _, _, r => by cases r; exact .int _ _
  | .text x, _, _, r => by cases r; exact .text _ _
  | .tup ks, _, _, r => by
    cases r with
    | tuple a b c d => exact .tup a b c (nesteds_of ks _ _ d)
theorem nesteds_of {h : Heap} : ∀ (ks : List NestedKey) (vs : List Value) (as : List Addr), ReadsAll h vs (NestedKey.datas ks) as → NestedAll h ks vs
  | [], _, _, r => by cases r; exact .nil
  | k :: ks, _, _, r => by
    cases r with
    | cons a b => exact .cons (nested_of k _ _ a) (nesteds_of ks _ _ b)
end
mutual
theorem depth_data : ∀ k : NestedKey, k.data.depth = k.depth
  | .none => rfl
  | .num _ => rfl
  | .text _ => rfl
  | .tup ks => by simp only [NestedKey.data, PyData.depth, NestedKey.depth]; rw [depths_data ks]
theorem depths_data : ∀ ks : List NestedKey, PyData.depthAll (NestedKey.datas ks) = NestedKey.depthAll ks
  | [] => rfl
  | k :: ks => by simp only [NestedKey.datas, PyData.depthAll, NestedKey.depthAll]; rw [depth_data k, depths_data ks]
end
def isTupK : NestedKey → Bool
  | .tup _ => true
  | _ => false
section
variable {X : Cx}
theorem fresh_thN {P : Program} {w : World} (S : Addr) (h0 : Heap) : Fresh (thN P w S h0) := fun h ho => by
  have s0 := sat_new ho
  obtain ⟨ob, few, fits, ris, led⟩ := s0
  refine ⟨#[], 0, _, ⟨ob, rfl, ⟨ris, rfl, rfl, .inl rfl, fun x hx => ?_, fun i h j e => ?_⟩, List.Pairwise.nil, fun p hp => (nomatch hp), led, ?_, by simp⟩, fun p hp => (nomatch hp)⟩
  · exact absurd hx (by simp [SetTable.fresh])
  · simp [hsOf] at e
  · show 0 * 5 < _; simp [SetTable.fresh]
/-- set(xs), xs a list or a tuple of tuples -/
def rSetN (w : World) (K : PySem.W.Frag) : List V → Hp → VK → Prop := fun vs H Q => ∃ (a : Addr) (zs : List (V × NestedKey)), vs = [.ref a] ∧ (SqL K H a (zs.map (·.1)) ∨ SqT K H a (zs.map (·.1))) ∧ zs.length < 64 ∧ (∀ z ∈ zs, Dp K H z.1 z.2.data ∧ isTupK z.2 = true ∧ z.2.depth ≤ 8) ∧
  ∀ (p : Addr) (js : List (V × NestedKey)), H p = none → (js.map (·.2)).Nodup → (∀ j ∈ js, j ∈ zs) → (∀ z ∈ zs, z.2 ∈ js.map (·.2)) → Q (.ref p) (upd H p (SetO w p (js.map (·.1))))
theorem ref_of {K : PySem.W.Frag} {h : Heap} {k : NestedKey} {v : Value} (hk : isTupK k = true) (x : NestedIs h k v) : ∃ a, v = .ref a := by
  cases x with
  | tup a b c d => exact ⟨_, rfl⟩
  | _ => cases hk
theorem cr_setN (hc : X.calm = true) (hu : X.A.units + 60 < cLine) : CallR X (.type "set") (rSetN X.w X.K) := by
  intro pins s σ H vs us Q I rv h
  obtain ⟨a, zs, rfl, hsq, hfew, hel, q⟩ := h
  obtain rfl := Vals.ref1 rv
  have hh : X.A.handled = none := I.ok.hd hc
  -- the things with their values
  have pair : ∀ us : List Value, Vals (zs.map (·.1)) us → ∃ ws : List ((V × NestedKey) × Value), zs = ws.map (·.1) ∧ us = ws.map (·.2) ∧ ∀ z ∈ ws, RelV z.1.1 z.2 := by
    clear hsq hfew hel q
    induction zs with
    | nil => intro us r; cases us with
      | nil => exact ⟨[], rfl, rfl, fun z hz => by cases hz⟩
      | cons u us => cases r
    | cons z zs ih =>
      intro us r
      cases r with
      | cons r1 r2 =>
        obtain ⟨ws, e1, e2, e3⟩ := ih _ r2
        exact ⟨(z, _) :: ws, by rw [List.map_cons, ← e1], by rw [List.map_cons, ← e2], fun y hy => by
          rcases List.mem_cons.mp hy with rfl | hy
          · exact r1
          · exact e3 y hy⟩
  have nk : ∀ (z : V × NestedKey) (u : Value), z ∈ zs → RelV z.1 u → NK s.heap u z.2 := fun z u hz r => by
    obtain ⟨d1, d2, d3⟩ := hel z hz
    obtain ⟨as, rd⟩ := Dp.reads I z.2.data z.1 u d1 r
    have n := nested_of z.2 u as rd
    exact ⟨ref_of (K := X.K) d2 n, n, d3⟩
  have main : ∀ (ws : List ((V × NestedKey) × Value)), zs = ws.map (·.1) → (∀ z ∈ ws, RelV z.1.1 z.2) → ∀ (h' : Heap) (tk : Nat) (L : List (Value × NestedKey)), (∃ es ep t, NS X.w h' s.heap.objs.size L es ep t ∧ ∀ p ∈ L, NK s.heap p.1 p.2) → Has (ws.map fun z => (z.2, z.1.2)) (ws.map fun z => (z.2, z.1.2)).length L → (∀ b o, s.heap.get? b = some o → h'.get? b = some o) →
      EP X pins σ Q (.ref s.heap.objs.size) { s with heap := h', toks := tk } := by
    intro ws ez hw h' tk L ⟨es, ep, t, R, _⟩ g kp
    -- each thing of L comes of one of ws
    have src : ∀ l : List (Value × NestedKey), (∀ p ∈ l, p ∈ L) → ∃ js : List (V × NestedKey), js.map (·.2) = l.map (·.2) ∧ Vals (js.map (·.1)) (l.map (·.1)) ∧ ∀ j ∈ js, j ∈ zs := by
      intro l
      induction l with
      | nil => intro _; exact ⟨[], rfl, .nil, fun j hj => by cases hj⟩
      | cons p l ih =>
        intro hl
        obtain ⟨js, e1, e2, e3⟩ := ih fun p hp => hl p (List.mem_cons_of_mem _ hp)
        have hp := g.sub p (hl p List.mem_cons_self)
        rw [List.take_length] at hp
        obtain ⟨z, hz, rfl⟩ := List.mem_map.mp hp
        exact ⟨z.1 :: js, by rw [List.map_cons, List.map_cons, e1], .cons (hw z hz) e2, fun j hj => by
          rcases List.mem_cons.mp hj with rfl | hj
          · rw [ez]; exact List.mem_map_of_mem hz
          · exact e3 j hj⟩
    obtain ⟨js, e1, e2, e3⟩ := src L fun _ h => h
    have hv : Vals (js.map (·.1)) (es.toList.map (·.2)) := by
      have : es.toList.map (·.2) = L.map (·.1) := by rw [R.eq, kept, List.map_map]; rfl
      rw [this]; exact e2
    have sat : Sat X.w h' s.heap.objs.size es ep t := ⟨R.ob, by have := size_of R.eq; have := R.few; unfold scanBound; omega, fits_of (h := h') R.eq R.tab (by have := R.room; omega), R.tab.ris, R.led⟩
    refine ⟨.ref s.heap.objs.size, _, I.laid kp (Nat.le_refl _) (setO_ok sat hv), rfl, q _ js (I.hok.fresh (Nat.le_refl _)) (by rw [e1]; exact g.nd) e3 fun z hz => ?_⟩
    rw [e1]
    rw [ez] at hz
    obtain ⟨y, hy, rfl⟩ := List.mem_map.mp hz
    exact g.all (y.2, y.1.2) (by rw [List.take_length]; exact List.mem_map.mpr ⟨y, hy, rfl⟩)
  have base : ∀ (ws : List ((V × NestedKey) × Value)), zs = ws.map (·.1) → (∀ z ∈ ws, RelV z.1.1 z.2) → (∀ p ∈ ws.map (fun z => (z.2, z.1.2)), NK s.heap p.1 p.2) ∧ (ws.map fun z => (z.2, z.1.2)).length < 64 ∧ (ws.map fun z => (z.2, z.1.2)).map (·.1) = ws.map (·.2) := fun ws ez hw => by
    refine ⟨fun p hp => ?_, ?_, ?_⟩
    · obtain ⟨z, hz, rfl⟩ := List.mem_map.mp hp
      exact nk z.1 z.2 (by rw [ez]; exact List.mem_map_of_mem hz) (hw z hz)
    · rw [ez, List.length_map] at hfew; rw [List.length_map]; exact hfew
    · rw [List.map_map]; rfl
  rcases hsq with hsq | hsq
  · obtain ⟨its, r, pl, hz⟩ := I.list hsq
    obtain ⟨ws, e1, e2, hw⟩ := pair _ r
    obtain ⟨b1, b2, b3⟩ := base ws e1 hw
    refine set_call (fun h' tk => ∃ L, (∃ es ep t, NS X.w h' s.heap.objs.size L es ep t ∧ ∀ p ∈ L, NK s.heap p.1 p.2) ∧ Has (ws.map fun z => (z.2, z.1.2)) (ws.map fun z => (z.2, z.1.2)).length L ∧ ∀ b o, s.heap.get? b = some o → h'.get? b = some o) (fun A' s1 E' Q' ha hun e hQ => ?_) fun h' tk ⟨L, x, g, kp⟩ => main ws e1 hw h' tk L x g kp
    subst e
    have pl' : (s.heap.push (new0 X.w)).IsList a its.toArray := pl.isList.push _
    obtain ⟨ol, hol, _⟩ := id pl.isList
    refine upd_list (s := { s with heap := s.heap.push (new0 X.w) }) (ws.map fun z => (z.2, z.1.2)) (thN X.prog X.w s.heap.objs.size s.heap) (ha.trans hh) pl' (by rw [b3, ← e2]) b1 b2 (by omega) (fresh_thN _ _ _ (Heap.get?_push_size _ rfl)) (Nat.ne_of_gt (Heap.lt_size hol)) (by show _ < (s.heap.push _).objs.size; rw [Heap.size_push]; exact Nat.lt_succ_self _) (none_ge (Nat.le_refl _)) (by show _ ≤ (s.heap.push _).objs.size; rw [Heap.size_push]; exact Nat.le_succ _) (fun b o e => Heap.get?_push_of_some _ e)
      fun h' tk L x g kp => hQ h' tk ⟨L, x, g, kp⟩
  · obtain ⟨its, r, ⟨o, ho, hcl, n, hdt⟩, hz⟩ := I.tuple hsq
    obtain ⟨ws, e1, e2, hw⟩ := pair _ r
    obtain ⟨b1, b2, b3⟩ := base ws e1 hw
    refine set_call (fun h' tk => ∃ L, (∃ es ep t, NS X.w h' s.heap.objs.size L es ep t ∧ ∀ p ∈ L, NK s.heap p.1 p.2) ∧ Has (ws.map fun z => (z.2, z.1.2)) (ws.map fun z => (z.2, z.1.2)).length L ∧ ∀ b o, s.heap.get? b = some o → h'.get? b = some o) (fun A' s1 E' Q' ha hun e hQ => ?_) fun h' tk ⟨L, x, g, kp⟩ => main ws e1 hw h' tk L x g kp
    subst e
    refine upd_tuple (s := { s with heap := s.heap.push (new0 X.w) }) (ws.map fun z => (z.2, z.1.2)) (thN X.prog X.w s.heap.objs.size s.heap) (ha.trans hh) ⟨o, Heap.get?_push_of_some _ ho, hcl, n, hdt⟩ (by rw [b3, ← e2]) b1 b2 (by omega) (fresh_thN _ _ _ (Heap.get?_push_size _ rfl)) (Nat.ne_of_gt (Heap.lt_size ho)) (by show _ < (s.heap.push _).objs.size; rw [Heap.size_push]; exact Nat.lt_succ_self _) (none_ge (Nat.le_refl _)) (by show _ ≤ (s.heap.push _).objs.size; rw [Heap.size_push]; exact Nat.le_succ _) (fun b o e => Heap.get?_push_of_some _ e)
      fun h' tk L x g kp => hQ h' tk ⟨L, x, g, kp⟩
end
end DX
namespace DL
open PySem PySem.Spec PyProof.Rows L2
variable {G : Type}
/-! ### data as keys of any depth -/
theorem nksD_cons {d : D} {ds : List D} {r : List NestedKey} (h : nksD (d :: ds) = some r) : ∃ k ks, nkD d = some k ∧ nksD ds = some ks ∧ r = k :: ks := by
  simp only [nksD] at h
  split at h
  · rename_i k ks e1 e2; cases h; exact ⟨k, ks, e1, e2, rfl⟩
  · cases h
mutual
theorem nk_py : ∀ (d : D) (k : NestedKey), nkD d = some k → d.py = k.data
  | .int i, k, h => by simp only [nkD] at h; cases h; rfl
  | .str x, k, h => by simp only [nkD] at h; cases h; rfl
  | .tup ds, k, h => by
    simp only [nkD] at h
    obtain ⟨ks, e, rfl⟩ := Option.map_eq_some_iff.mp h
    simp only [D.py, NestedKey.data]
    rw [nks_py ds ks e]
  | .non, k, h => by simp [nkD] at h
  | .bl _, k, h => by simp [nkD] at h
  | .lst _, k, h => by simp [nkD] at h
  | .dct _, k, h => by simp [nkD] at h
  | .dcn _, k, h => by simp [nkD] at h
  | .obj _, k, h => by simp [nkD] at h
theorem nks_py : ∀ (ds : List D) (ks : List NestedKey), nksD ds = some ks → D.pys ds = NestedKey.datas ks
  | [], ks, h => by simp only [nksD] at h; cases h; rfl
  | d :: ds, r, h => by
    obtain ⟨k, ks, e1, e2, rfl⟩ := nksD_cons h
    simp only [D.pys, NestedKey.datas]
    rw [nk_py d k e1, nks_py ds ks e2]
end
mutual
theorem nk_pl : ∀ (d : D) (k : NestedKey), nkD d = some k → d.pl = true
  | .int i, k, h => rfl
  | .str x, k, h => rfl
  | .tup ds, k, h => by
    simp only [nkD] at h
    obtain ⟨ks, e, rfl⟩ := Option.map_eq_some_iff.mp h
    simp only [D.pl]
    exact nks_pl ds ks e
  | .non, k, h => by simp [nkD] at h
  | .bl _, k, h => by simp [nkD] at h
  | .lst _, k, h => by simp [nkD] at h
  | .dct _, k, h => by simp [nkD] at h
  | .dcn _, k, h => by simp [nkD] at h
  | .obj _, k, h => by simp [nkD] at h
theorem nks_pl : ∀ (ds : List D) (ks : List NestedKey), nksD ds = some ks → D.pls ds = true
  | [], ks, h => rfl
  | d :: ds, r, h => by
    obtain ⟨k, ks, e1, e2, rfl⟩ := nksD_cons h
    simp only [D.pls, nk_pl d k e1, nks_pl ds ks e2, Bool.and_self]
end
mutual
theorem nk_inj : ∀ (a b : D) (k : NestedKey), nkD a = some k → nkD b = some k → a = b
  | .int i, b, k, h, h2 => by
    simp only [nkD] at h; cases h
    cases b <;> simp [nkD] at h2
    rw [h2]
  | .str x, b, k, h, h2 => by
    simp only [nkD] at h; cases h
    cases b <;> simp [nkD] at h2
    rw [h2]
  | .tup ds, b, k, h, h2 => by
    simp only [nkD] at h
    obtain ⟨ks, e, rfl⟩ := Option.map_eq_some_iff.mp h
    cases b with
    | tup es =>
      simp only [nkD] at h2
      obtain ⟨ks', e', h3⟩ := Option.map_eq_some_iff.mp h2
      cases h3
      rw [nks_inj ds es ks e e']
    | _ => simp [nkD] at h2
  | .non, b, k, h, h2 => by simp [nkD] at h
  | .bl _, b, k, h, h2 => by simp [nkD] at h
  | .lst _, b, k, h, h2 => by simp [nkD] at h
  | .dct _, b, k, h, h2 => by simp [nkD] at h
  | .dcn _, b, k, h, h2 => by simp [nkD] at h
  | .obj _, b, k, h, h2 => by simp [nkD] at h
theorem nks_inj : ∀ (a b : List D) (ks : List NestedKey), nksD a = some ks → nksD b = some ks → a = b
  | [], [], ks, _, _ => rfl
  | [], d :: ds, ks, h, h2 => by
    simp only [nksD] at h; cases h
    obtain ⟨k, ks, _, _, e⟩ := nksD_cons h2
    cases e
  | d :: ds, [], ks, h, h2 => by
    simp only [nksD] at h2; cases h2
    obtain ⟨k, ks, _, _, e⟩ := nksD_cons h
    cases e
  | d :: ds, e :: es, r, h, h2 => by
    obtain ⟨k, ks, a1, a2, rfl⟩ := nksD_cons h
    obtain ⟨k', ks', b1, b2, e'⟩ := nksD_cons h2
    cases e'
    rw [nk_inj d e k a1 b1, nks_inj ds es ks a2 b2]
end
mutual
theorem toks_key : ∀ (x y : NestedKey) (l m : List (Int ⊕ List Nat)), PySem.W.alike x.data y.data = true → PySem.W.keyToks x.data ++ l = PySem.W.keyToks y.data ++ m → x = y ∧ l = m
  | .none, y, l, m, h, e => by
    cases y with
    | none => exact ⟨rfl, e⟩
    | _ => simp [NestedKey.data, PySem.W.alike] at h
  | .num i, y, l, m, h, e => by
    cases y with
    | num j => simp only [NestedKey.data, PySem.W.keyToks, List.cons_append, List.nil_append, List.cons.injEq, Sum.inl.injEq] at e; exact ⟨by rw [e.1], e.2⟩
    | _ => simp [NestedKey.data, PySem.W.alike] at h
  | .text i, y, l, m, h, e => by
    cases y with
    | text j => simp only [NestedKey.data, PySem.W.keyToks, List.cons_append, List.nil_append, List.cons.injEq, Sum.inr.injEq] at e; exact ⟨by rw [PySem.W.str_of_cps e.1], e.2⟩
    | _ => simp [NestedKey.data, PySem.W.alike] at h
  | .tup xs, y, l, m, h, e => by
    cases y with
    | tup ys =>
      simp only [NestedKey.data, PySem.W.keyToks] at e
      simp only [NestedKey.data, PySem.W.alike] at h
      obtain ⟨h1, h2⟩ := toks_keys xs ys l m h e
      exact ⟨by rw [h1], h2⟩
    | _ => simp [NestedKey.data, PySem.W.alike] at h
theorem toks_keys : ∀ (xs ys : List NestedKey) (l m : List (Int ⊕ List Nat)), PySem.W.alikeAll (NestedKey.datas xs) (NestedKey.datas ys) = true → PySem.W.keyToksAll (NestedKey.datas xs) ++ l = PySem.W.keyToksAll (NestedKey.datas ys) ++ m → xs = ys ∧ l = m
  | [], [], l, m, _, e => by
    simp only [NestedKey.datas, PySem.W.keyToksAll, List.cons_append, List.nil_append, List.cons.injEq, true_and] at e
    exact ⟨rfl, e⟩
  | [], y :: ys, l, m, _, e => by
    simp only [NestedKey.datas, PySem.W.keyToksAll, List.cons_append, List.nil_append, List.cons.injEq] at e
    exact absurd e.1 (by simp)
  | x :: xs, [], l, m, _, e => by
    simp only [NestedKey.datas, PySem.W.keyToksAll, List.cons_append, List.nil_append, List.cons.injEq] at e
    exact absurd e.1 (by simp)
  | x :: xs, y :: ys, l, m, h, e => by
    simp only [NestedKey.datas, PySem.W.keyToksAll, List.cons_append, List.append_assoc, List.cons.injEq, true_and] at e
    simp only [NestedKey.datas, PySem.W.alikeAll, Bool.and_eq_true] at h
    obtain ⟨h1, h2⟩ := toks_key x y _ _ h.1 e
    obtain ⟨h3, h4⟩ := toks_keys xs ys l m h.2 h2
    exact ⟨by rw [h1, h3], h4⟩
end
/-- what a set of tuples may have -/
def okSN (ds : List D) : Bool := (ds.all fun d => match nkD d with | some (.tup ks) => decide ((NestedKey.tup ks).depth ≤ 8) | _ => false) && (ds.all fun a => ds.all fun b => PySem.W.alike a.py b.py) && decide (ds.length < 64)
structure SN (ds : List D) (ks : List NestedKey) : Prop where
  eq : ds.map nkD = ks.map some
  tup : ∀ k ∈ ks, DX.isTupK k = true ∧ k.depth ≤ 8
  al : ∀ k ∈ ks, ∀ k' ∈ ks, PySem.W.alike k.data k'.data = true
  few : ks.length < 64
theorem okSN_keys {ds : List D} (h : okSN ds = true) : ∃ ks, SN ds ks := by
  simp only [okSN, Bool.and_eq_true, decide_eq_true_eq] at h
  obtain ⟨⟨h1, h2⟩, h3⟩ := h
  have key : ∀ d ∈ ds, ∃ k, nkD d = some k ∧ DX.isTupK k = true ∧ k.depth ≤ 8 := fun d hd => by
    have := List.all_eq_true.mp h1 d hd
    split at this
    · rename_i ks e; exact ⟨_, e, rfl, by simpa using this⟩
    · cases this
  have : ∀ l : List D, (∀ d ∈ l, d ∈ ds) → ∃ ks : List NestedKey, l.map nkD = ks.map some ∧ (∀ k ∈ ks, DX.isTupK k = true ∧ k.depth ≤ 8) := by
    intro l
    induction l with
    | nil => intro _; exact ⟨[], rfl, fun k hk => by cases hk⟩
    | cons d l ih =>
      intro hl
      obtain ⟨ks, e, hk⟩ := ih fun d hd => hl d (List.mem_cons_of_mem _ hd)
      obtain ⟨k, ek, h4⟩ := key d (hl d List.mem_cons_self)
      exact ⟨k :: ks, by rw [List.map_cons, List.map_cons, e, ek], fun k' hk' => by
        rcases List.mem_cons.mp hk' with rfl | hk'
        · exact h4
        · exact hk k' hk'⟩
  obtain ⟨ks, e, hk⟩ := this ds fun _ h => h
  have back : ∀ k ∈ ks, ∃ d ∈ ds, nkD d = some k := fun k hk => by
    have : some k ∈ ds.map nkD := by rw [e]; exact List.mem_map_of_mem hk
    obtain ⟨d, hd, e⟩ := List.mem_map.mp this
    exact ⟨d, hd, e⟩
  refine ⟨ks, e, hk, fun k hk k' hk' => ?_, ?_⟩
  · obtain ⟨d, hd, e1⟩ := back k hk
    obtain ⟨d', hd', e2⟩ := back k' hk'
    rw [← nk_py d k e1, ← nk_py d' k' e2]
    exact List.all_eq_true.mp (List.all_eq_true.mp h2 d hd) d' hd'
  · have := congrArg List.length e
    rw [List.length_map, List.length_map] at this
    omega
theorem SN.back {ds : List D} {ks : List NestedKey} (h : SN ds ks) {d : D} (hd : d ∈ ds) : ∃ k ∈ ks, nkD d = some k := by
  have : nkD d ∈ ks.map some := by rw [← h.eq]; exact List.mem_map_of_mem hd
  obtain ⟨k, hk, e⟩ := List.mem_map.mp this
  exact ⟨k, hk, e.symm⟩
theorem SN.inj {ds : List D} {ks : List NestedKey} (h : SN ds ks) : InjT ds := fun a ha b hb h1 h2 => by
  obtain ⟨k, hk, ek⟩ := h.back ha
  obtain ⟨k', hk', ek'⟩ := h.back hb
  have e := ltD_toks h1 h2
  rw [nk_py a k ek, nk_py b k' ek'] at e
  obtain ⟨e2, _⟩ := toks_key k k' [] [] (h.al k hk k' hk') (by rw [List.append_nil, List.append_nil]; exact e)
  subst e2
  exact nk_inj a b k ek ek'
/-- what is laid: values with their data and their keys -/
theorem SN.zip {K : PySem.W.Frag} {W : Wd G} {P H : Hp} (s : Sub P H) : ∀ {ds : List D} {xs : List V}, Reps K W P ds xs → (∀ d ∈ ds, ∃ k, nkD d = some k ∧ DX.isTupK k = true ∧ k.depth ≤ 8) → ∃ zs : List (V × NestedKey × D), xs = zs.map (·.1) ∧ ds = zs.map (·.2.2) ∧ ∀ z ∈ zs, nkD z.2.2 = some z.2.1 ∧ Rep K W P z.2.2 z.1 ∧ Dp K H z.1 z.2.1.data ∧ DX.isTupK z.2.1 = true ∧ z.2.1.depth ≤ 8
  | [], xs, h, _ => by simp only [Reps] at h; subst h; exact ⟨[], rfl, rfl, fun z hz => by cases hz⟩
  | d :: ds, xs, h, hk => by
    simp only [Reps] at h
    obtain ⟨v, r, rfl, h1, h2⟩ := h
    obtain ⟨zs, e1, e2, e3⟩ := SN.zip s h2 fun d hd => hk d (List.mem_cons_of_mem _ hd)
    obtain ⟨k, ek, t1, t2⟩ := hk d List.mem_cons_self
    exact ⟨(v, k, d) :: zs, by rw [List.map_cons, ← e1], by rw [List.map_cons, ← e2], fun z hz => by
      rcases List.mem_cons.mp hz with rfl | hz
      · exact ⟨ek, h1, by rw [← nk_py d k ek]; exact Rep.dp s d v (nk_pl d k ek) h1, t1, t2⟩
      · exact e3 z hz⟩
theorem nodup_mapD {js : List (V × NestedKey × D)} (hk : ∀ z ∈ js, nkD z.2.2 = some z.2.1) (h : (js.map fun z => z.2.1).Nodup) : (js.map fun z => z.2.2).Nodup := by
  unfold List.Nodup at h ⊢
  rw [List.pairwise_map] at h ⊢
  refine List.Pairwise.imp_of_mem (fun {a b} ha hb hne e => hne ?_) h
  have h1 := hk a ha
  have h2 := hk b hb
  rw [e, h2] at h1
  exact (Option.some.inj h1).symm
theorem reps_of {K : PySem.W.Frag} {W : Wd G} {P : Hp} : ∀ {js : List (V × NestedKey × D)}, (∀ z ∈ js, Rep K W P z.2.2 z.1) → Reps K W P (js.map fun z => z.2.2) (js.map (·.1))
  | [], _ => by simp [Reps]
  | z :: js, h => by
    rw [List.map_cons, List.map_cons]
    simp only [Reps]
    exact ⟨_, _, rfl, h z List.mem_cons_self, reps_of fun z hz => h z (List.mem_cons_of_mem _ hz)⟩
def rSSN (w : World) (K : PySem.W.Frag) : V → Hp → VK → Prop := fun v H Q => DX.rSetN w K [v] H fun y H2 => DX.rSortO w K [y] H2 Q
/-- sorted(set(x)), len(set(x)), x of ints, texts or tuples -/
def opSS2 : D → Option S
  | .lst ds => if okSS ds = true ∨ okSN ds = true then some (.ow (.lst (ssD ds))) else none
  | .tup ds => if okSS ds = true ∨ okSN ds = true then some (.ow (.lst (ssD ds))) else none
  | _ => none
/-- the chosen things of a set, by their keys -/
theorem pick_js {zs : List (V × NestedKey × D)} : ∀ {js : List (V × NestedKey)}, (∀ j ∈ js, j ∈ zs.map fun z => (z.1, z.2.1)) → ∃ ys : List (V × NestedKey × D), js = ys.map (fun z => (z.1, z.2.1)) ∧ ∀ y ∈ ys, y ∈ zs
  | [], _ => ⟨[], rfl, fun y hy => by cases hy⟩
  | j :: js, h => by
    obtain ⟨ys, e, hy⟩ := pick_js (zs := zs) (js := js) fun j hj => h j (List.mem_cons_of_mem _ hj)
    obtain ⟨z, hz, rfl⟩ := List.mem_map.mp (h j List.mem_cons_self)
    exact ⟨z :: ys, by rw [List.map_cons, ← e], fun y hy' => by
      rcases List.mem_cons.mp hy' with rfl | h
      · exact hz
      · exact hy y h⟩
theorem ss_pick {ds : List D} {ks : List NestedKey} (hs : SN ds ks) {zs ys : List (V × NestedKey × D)} (ed : ds = zs.map (·.2.2)) (hk : ∀ z ∈ zs, nkD z.2.2 = some z.2.1) (hy : ∀ y ∈ ys, y ∈ zs) (hn : (ys.map fun z => z.2.1).Nodup) (hall : ∀ z ∈ zs, z.2.1 ∈ ys.map fun z => z.2.1)
    {srt : List (V × NestedKey × D)} (hp : srt.Perm ys) (hsrt : srt.Pairwise fun a b => ltD b.2.2 a.2.2 = false) : srt.map (fun z => z.2.2) = ssD ds := by
  refine ssD_of hs.inj ?_ ?_ fun y => ?_
  · rw [List.pairwise_map]; exact hsrt
  · exact nodup_mapD (fun z hz => hk z (hy z (hp.mem_iff.mp hz))) ((hp.map _).nodup_iff.mpr hn)
  · rw [ed]
    constructor
    · intro h
      obtain ⟨z, hz, rfl⟩ := List.mem_map.mp h
      exact List.mem_map_of_mem (f := fun z : V × NestedKey × D => z.2.2) (hy z (hp.mem_iff.mp hz))
    · intro h
      obtain ⟨z, hz, rfl⟩ := List.mem_map.mp h
      obtain ⟨y, hy', e⟩ := List.mem_map.mp (hall z hz)
      have e1 := hk z hz
      have e2 := hk y (hy y hy')
      rw [e] at e2
      rw [nk_inj _ _ _ e1 e2]
      exact List.mem_map_of_mem (f := fun z : V × NestedKey × D => z.2.2) (hp.mem_iff.mpr hy')
theorem SN.keyed {ds : List D} {ks : List NestedKey} (h : SN ds ks) : ∀ d ∈ ds, ∃ k, nkD d = some k ∧ DX.isTupK k = true ∧ k.depth ≤ 8 := fun d hd => by
  obtain ⟨k, hk, e⟩ := h.back hd
  exact ⟨k, e, h.tup k hk⟩
theorem b_ssN {w : World} {K : PySem.W.Frag} {W : Wd G} {P₀ H₀ P : Hp} {O : Addr → Option Tag} {σ : L2.St} {st : Sl} {τ : List V} {ts : List S} {H : Hp} {g : G} {Q : VK} (R : RelB K W P₀ H₀ P O σ st τ ts H g) {ds : List D} {a : Addr} {xs : List V}
    (hk : okSN ds = true) (hs : SqL K H a xs ∨ SqT K H a xs) (rs : Reps K W P ds xs) (hzl : ds.length ≤ sizeLine) (q : ∀ v H', Rel K W P₀ H₀ σ st (v :: τ) (.ow (.lst (ssD ds)) :: ts) H' g → Q v H') : rSSN w K (.ref a) H Q := by
  obtain ⟨ks, sn⟩ := okSN_keys hk
  obtain ⟨zs, e1, e2, e3⟩ := SN.zip R.sub rs sn.keyed
  have hlen : zs.length < 64 := by have := congrArg List.length e2; rw [List.length_map] at this; have h4 := congrArg List.length sn.eq; simp at h4; have := sn.few; omega
  refine ⟨a, zs.map fun z => (z.1, z.2.1), rfl, by rw [List.map_map]; rw [e1] at hs; exact hs, by rw [List.length_map]; exact hlen, fun z hz => ?_, fun p js hp hn hin hall => ?_⟩
  · obtain ⟨y, hy, rfl⟩ := List.mem_map.mp hz
    exact (e3 y hy).2.2
  · obtain ⟨ys, rfl, hy⟩ := pick_js hin
    have R2 := R.waste (o := DX.SetO w p ((ys.map fun z => (z.1, z.2.1)).map (·.1))) hp
    have alk : ∀ d ∈ (ys.map fun z => (z.1, z.2.1.data)).map (·.2), ∃ k ∈ ks, d = k.data ∧ DX.isTupK k = true ∧ k.depth ≤ 8 := fun d hd => by
      rw [List.map_map] at hd
      obtain ⟨y, hy', rfl⟩ := List.mem_map.mp hd
      have hz := e3 y (hy y hy')
      have : y.2.2 ∈ ds := by rw [e2]; exact List.mem_map_of_mem (f := fun z : V × NestedKey × D => z.2.2) (hy y hy')
      obtain ⟨k, hk, ek⟩ := sn.back this
      rw [hz.1] at ek; cases ek
      exact ⟨_, hk, rfl, hz.2.2.2⟩
    refine ⟨p, ys.map fun z => (z.1, z.2.1.data), rfl, by rw [upd_same, List.map_map, List.map_map]; rfl, fun z hz => ?_, fun d hd d' hd' => ?_, .inr fun d hd => ?_, fun z hz => ?_, fun q' zs' pz hq => ?_⟩
    · obtain ⟨y, hy', rfl⟩ := List.mem_map.mp hz
      have := (e3 y (hy y hy')).2.2.1
      have r := (e3 y (hy y hy')).2.1
      rw [← nk_py _ _ (e3 y (hy y hy')).1]
      exact Rep.dp R2.sub _ _ (nk_pl _ _ (e3 y (hy y hy')).1) r
    · obtain ⟨k, hk, rfl, _⟩ := alk d hd
      obtain ⟨k', hk', rfl, _⟩ := alk d' hd'
      exact sn.al k hk k' hk'
    · obtain ⟨k, hk, rfl, ht, _⟩ := alk d hd
      cases k with
      | tup ks => exact ⟨_, rfl⟩
      | _ => cases ht
    · obtain ⟨y, hy', rfl⟩ := List.mem_map.mp hz
      have h8 := (e3 y (hy y hy')).2.2.2.2
      have hd : ∀ k : NestedKey, k.data.depth = k.depth := by
        intro k
        exact DX.depth_data k
      show y.2.1.data.depth ≤ 100
      rw [hd]; omega
    · have hp2 := (List.mergeSort_perm zs' (PySem.W.dataLe false (·.2))).trans pz
      obtain ⟨srt, ps, es⟩ := perm_lift (fun z : V × NestedKey × D => (z.1, z.2.1.data)) hp2 ys rfl
      have tot := PySem.W.sortLe_total (listOrd itemOrd) false fun b : V × PyData => PySem.W.keyToks b.2
      have sp : (zs'.mergeSort (PySem.W.dataLe false (·.2))).Pairwise fun a b => PySem.W.dataLe false (·.2) a b = true := List.pairwise_mergeSort (fun a b c h1 h2 => tot.trans a b c h1 h2) (fun a b => by rw [Bool.or_eq_true]; exact tot.total a b) _
      rw [← es, List.pairwise_map] at sp
      have hkk : ∀ z ∈ zs, nkD z.2.2 = some z.2.1 := fun z hz => (e3 z hz).1
      have fin := ss_pick sn e2 hkk hy (by rw [List.map_map] at hn; exact hn) (fun z hz => by
        have := hall (z.1, z.2.1) (List.mem_map.mpr ⟨z, hz, rfl⟩)
        rw [List.map_map] at this; exact this) ps (List.Pairwise.imp_of_mem (fun {a b} ha hb h => by
          have ka := hkk a (hy a (ps.mem_iff.mp ha))
          have kb := hkk b (hy b (ps.mem_iff.mp hb))
          rw [PySem.W.dataLe_eq] at h
          unfold ltD
          rw [nk_py _ _ ka, nk_py _ _ kb]
          simpa using h) sp)
      rw [← es]
      refine q _ _ ?_
      rw [← fin]
      refine R2.newLst hq ?_ ?_
      · rw [List.map_map]
        exact reps_of fun z hz => (e3 z (hy z (ps.mem_iff.mp hz))).2.1
      · rw [fin]; exact Nat.le_trans (ssD_len _) hzl
def rSS2 (w : World) (K : PySem.W.Frag) : V → Hp → VK → Prop := fun v H Q => rSS w K v H Q ∨ rSSN w K v H Q
theorem b_ss2 {w : World} {K : PySem.W.Frag} {W : Wd G} : B1 K W (rSS2 w K) opSS2 := by
  intro P₀ H₀ P O σ st τ ts H g x dx z Q R rx h q
  cases dx with
  | lst ds =>
    simp only [opSS2] at h
    split at h
    · rename_i hk
      cases h
      rcases hk with hk | hk
      · exact .inl (b_ss P₀ H₀ P O σ st τ ts H g x (.lst ds) _ Q R rx (by simp only [opSS, hk, if_true]) q)
      · obtain ⟨a, xs, rfl, sq, hz, rs⟩ := rd1_lst.mp rx
        exact .inr (b_ssN R hk (.inl (SqL.of sq)) rs hz q)
    · cases h
  | tup ds =>
    simp only [opSS2] at h
    split at h
    · rename_i hk
      cases h
      rcases hk with hk | hk
      · exact .inl (b_ss P₀ H₀ P O σ st τ ts H g x (.tup ds) _ Q R rx (by simp only [opSS, hk, if_true]) q)
      · obtain ⟨a, xs, rfl, sq, hz, rs⟩ := rd1_tup.mp rx
        exact .inr (b_ssN R hk (.inr (R.sub.sqT sq.sq)) rs hz q)
    · cases h
  | _ => cases h
end DL
/-! DX9: sorted(x), x a list, a tuple, or what else can be gone through. -/
namespace DX
open PySem PySem.Spec PyProof.Rows L2
section
variable {X : Cx}
/-- sorted(u), by what going through u gives -/
theorem sorted_by {pins : List (Addr × Obj)} {s : Shared} {σ : L2.St} {H : Hp} {u : Value} {zs : List (V × PyData)} {Q : VK} {E : Value → Shared → Prop} (I : Inv X pins σ H s) (hu : X.A.units + 120 < cLine)
    (hD : ∀ z ∈ zs, Dp X.K H z.1 z.2) (hal : PySem.W.AllAlike (zs.map (·.2))) (hk : Srt (zs.map (·.2))) (hdp : ∀ z ∈ zs, z.2.depth ≤ 100) (few : zs.length ≤ sizeLine)
    (col : ∀ (Q' : List Value → Shared → Prop) (E' : Value → Shared → Prop), (∀ s1 out, (∀ b o, s.heap.get? b = some o → s1.heap.get? b = some o) → s.heap.objs.size ≤ s1.heap.objs.size → s1.gens = s.gens → s1.os = s.os → Vals (zs.map (·.1)) out → Q' out s1) → wpAny (model X.prog X.w) X.A.in1 (collect u) Q' E' s)
    (q : ∀ p, H p = none → Q (.ref p) (upd H p (.lst ((zs.mergeSort (PySem.W.dataLe false (·.2))).map (·.1))))) : wpAny (model X.prog X.w) X.A (call (.builtin "sorted") [u]) (EP X pins σ Q) E s := by
  refine Calls.call_function_entry kind_sorted plain_sorted entry_sorted (args_sorted1 _) ?_
  unfold Builtin.«sorted»
  refine wpAny_bind (m := checkCount "sorted" 1 1 _) (wpAny_pure (wpAny_bind (col _ _ fun s1 out k1 hz g1 o1 r => ?_)))
  obtain ⟨ws', e1, ew, hw'⟩ := pair_of r
  have ew : ws'.map (·.2) = out := ew.symm
  have pz : (ws'.map (·.1)).Perm zs := by rw [e1]
  have hlen : out.length = ws'.length := by rw [← ew, List.length_map]
  have hsz : out.length ≤ sizeLine := by rw [hlen]; have := congrArg List.length e1; rw [List.length_map] at this; omega
  refine wpAny_bind (wpAny_newList ?_ hsz)
  have hoL : (s1.heap.push (seqObj "list" out.toArray 0)).get? s1.heap.objs.size = some (seqObj "list" out.toArray 0) := Heap.get?_push_size _ rfl
  -- the things as they are read in the new heap
  have hrd : ∀ z ∈ ws', ∃ as, Reads (s1.heap.push (seqObj "list" out.toArray 0)) z.2 z.1.2 as ∧ s1.heap.objs.size ∉ as := fun z hz => by
    have hz1 : z.1 ∈ zs := by rw [← pz.mem_iff]; exact List.mem_map.mpr ⟨z, hz, rfl⟩
    obtain ⟨as, ra⟩ := Dp.reads I z.1.2 z.1.1 z.2 (hD _ hz1) (hw' z hz)
    have ra2 := PyProof.Rows.Reads.keeps k1 ra
    exact ⟨as, PyProof.Rows.Reads.keeps (fun b o e => Heap.get?_push_of_some _ e) ra2, fun hm => by
      obtain ⟨o, ho⟩ := reads_there ra2 _ hm
      exact absurd (Heap.lt_size ho) (Nat.lt_irrefl _)⟩
  have e0 : PySem.W.EachIs (fun v (b : V × PyData) => RelV b.1 v) out (ws'.map (·.1)) := by rw [← ew]; exact each_of hw'
  have er : PySem.W.EachIs (fun v (b : V × PyData) => ∃ as, Reads (s1.heap.push (seqObj "list" out.toArray 0)) v b.2 as ∧ s1.heap.objs.size ∉ as) out (ws'.map (·.1)) := by
    rw [← ew]
    have : ∀ l : List ((V × PyData) × Value), (∀ z ∈ l, z ∈ ws') → PySem.W.EachIs (fun v (b : V × PyData) => ∃ as, Reads (s1.heap.push (seqObj "list" out.toArray 0)) v b.2 as ∧ s1.heap.objs.size ∉ as) (l.map (·.2)) (l.map (·.1)) := by
      intro l
      induction l with
      | nil => intro _; exact .nil
      | cons z l ih => intro hl; exact .cons (hrd z (hl z List.mem_cons_self)) (ih fun y hy => hl y (List.mem_cons_of_mem _ hy))
    rw [ew]
    have := this ws' fun _ h => h
    rw [ew] at this
    exact this
  have mz : ∀ d, d ∈ (ws'.map (·.1)).map (fun b : V × PyData => b.2) → d ∈ zs.map (·.2) := fun d hd => (pz.map _).mem_iff.mp hd
  refine wpAny_bind (wpAny_holding (sort_srt (A := X.A.in1) (s := { s1 with heap := s1.heap.push (seqObj "list" out.toArray 0) }) (enc := fun b : V × PyData => b.2) hoL e0 er (fun d hd d' hd' => hal d (mz d hd) d' (mz d' hd')) ?_ (by rw [List.length_map, ← hlen]; exact hsz) (fun b hb => ?_) fun out2 hl2 hE => ?_))
  · rcases hk with (hk | hk) | hk
    · exact .inl (.inl fun d hd => hk d (mz d hd))
    · exact .inl (.inr fun d hd => hk d (mz d hd))
    · exact .inr fun d hd => hk d (mz d hd)
  · have hb2 : b ∈ zs := pz.mem_iff.mp hb
    have := hdp b hb2
    show X.A.units + 1 + 1 + b.2.depth < cLine
    omega
  · obtain ⟨c, hcc⟩ := sortedHeap_at (vs := out) (out := out2.toArray) hoL
    have hval := vals_each hE
    have kp : ∀ b u, s.heap.get? b = some u → (sortedHeap (s1.heap.push (seqObj "list" out.toArray 0)) s1.heap.objs.size out out2.toArray).get? b = some u := fun b u e => by
      have qq := k1 b u e
      have hlt := Heap.lt_size qq
      rw [sortedHeap_old (Nat.ne_of_lt hlt) (by rw [size_push']; exact Nat.lt_succ_of_lt hlt)]
      exact Heap.get?_push_of_some _ qq
    have hlen3 : ((ws'.map (·.1)).mergeSort (PySem.W.dataLe false fun b : V × PyData => b.2)).length ≤ sizeLine := by
      rw [List.length_mergeSort, List.length_map, ← hlen]; exact hsz
    refine wpAny_pure ⟨_, rfl, ?_⟩
    rw [e1] at q
    refine ⟨.ref s1.heap.objs.size, upd H s1.heap.objs.size (.lst (((ws'.map (·.1)).mergeSort (PySem.W.dataLe false fun b : V × PyData => b.2)).map (·.1))), ?_, rfl, q _ (I.hok.fresh hz)⟩
    refine I.call' (ch := []) o1 (Un.laid kp hz (I.hok.fresh hz)) (I.hok.laid kp hz ⟨by rw [List.length_map]; exact hlen3, out2, c, hval, hcc⟩) ?_ (fun b hb => by cases hb)
    show AllBare s1.gens
    rw [g1]; exact I.bare
end
section
variable {P : Program} {w : World} {A : Around} {E : Value → Shared → Prop} {s : Shared}
/-- going through a tuple -/
theorem collect_tup {l : Addr} {o : Obj} {vs : List Value} {n : Nat} {Q : List Value → Shared → Prop} (ho : s.heap.get? l = some o) (hc : o.cls = .type "tuple") (hd : o.data = .seq vs.toArray n) (few : vs.length ≤ sizeLine)
    (q : Q vs { s with heap := (s.heap.push (seqObj "list" #[] 0)).update s.heap.objs.size (Obj.mapSeq (· ++ vs.toArray)) }) : wpAny (model P w) A (collect (.ref l)) Q E s := by
  have ho2 : (s.heap.push (seqObj "list" #[] 0)).get? l = some o := Heap.get?_push_of_some _ ho
  have new : (s.heap.push (seqObj "list" #[] 0)).get? s.heap.objs.size = some (seqObj "list" #[] 0) := Heap.get?_push_size _ rfl
  unfold collect
  refine wpAny_bind (wpAny_runValue (codeAny_builtin entry_proto_collect' (?_ : wpAny _ _ (newList [] >>= fun z => again (.builtin "list.__iadd__" ⟨[z, .ref l], []⟩)) _ _ s)))
  refine wpAny_bind (wpAny_newList (wpAny_pure ⟨Code.quiet_builtin _ (by decide +kernel), codeAny_builtin entry_list_iadd' (?_ : wpAny _ _ (Builtin.List.listExtendWith (.ref s.heap.objs.size) (.ref l) (.ref s.heap.objs.size)) _ _ _)⟩))
  unfold Builtin.List.listExtendWith
  refine wpAny_bind (wpAny_typeOf (s := { s with heap := s.heap.push (seqObj "list" #[] 0) }) (T := "tuple") ⟨o, ho2, hc⟩ (wp_if_pos (by rw [show (Value.type "tuple" == Value.type "tuple") = true by decide]; simp) ?_))
  refine wpAny_bind (listItems_at ho2 hd (wpAny_bind (listItems_at new rfl (wp_if_neg (by simp) ?_))))
  try refine wpAny_bind (wpAny_pure ?_)
  refine wpAny_bind (listUpdate_at new rfl (wpAny_pure ?_) (Nat.zero_le _) (by simp only [Array.size_append, List.size_toArray, List.length_nil]; omega))
  refine wpAny_bind (wpAny_load (get?_update_seq new _) (?_ : wpAny _ _ (pure ((#[] : Array Value) ++ vs.toArray).toList) Q E _))
  rw [show ((#[] : Array Value) ++ vs.toArray).toList = vs by simp]
  exact wpAny_pure q
end
section
variable {X : Cx}
/-- sorted(x), x a list or a tuple -/
def rSortL (K : PySem.W.Frag) : List V → Hp → VK → Prop := fun vs H Q => ∃ (a : Addr) (zs : List (V × PyData)), vs = [.ref a] ∧ (SqL K H a (zs.map (·.1)) ∨ SqT K H a (zs.map (·.1))) ∧ (∀ z ∈ zs, Dp K H z.1 z.2) ∧
  PySem.W.AllAlike (zs.map (·.2)) ∧ Srt (zs.map (·.2)) ∧ (∀ z ∈ zs, z.2.depth ≤ 100) ∧ ∀ p, H p = none → Q (.ref p) (upd H p (.lst ((zs.mergeSort (PySem.W.dataLe false (·.2))).map (·.1))))
theorem cr_sortL (hu : X.A.units + 120 < cLine) : CallR X (.builtin "sorted") (rSortL X.K) := by
  intro pins s σ H vs us Q I rv h
  obtain ⟨a, zs, rfl, hsq, hD, hal, hk, hdp, q⟩ := h
  obtain rfl := Vals.ref1 rv
  have kp : ∀ (its : List Value) (b : Addr) (o : Obj), s.heap.get? b = some o → ((s.heap.push (seqObj "list" #[] 0)).update s.heap.objs.size (Obj.mapSeq (· ++ its.toArray))).get? b = some o := fun its b o e => by
    rw [Heap.get?_update_ne _ _ _ _ (Nat.ne_of_lt (Heap.lt_size e))]
    exact Heap.get?_push_of_some _ e
  have big : ∀ its : List Value, s.heap.objs.size ≤ ((s.heap.push (seqObj "list" #[] 0)).update s.heap.objs.size (Obj.mapSeq (· ++ its.toArray))).objs.size := fun its => by
    rw [Heap.size_update, size_push']; exact Nat.le_succ _
  rcases hsq with hsq | hsq
  · obtain ⟨its, r, pl, hz⟩ := I.list hsq
    have hl : its.length = zs.length := by rw [← r.length, List.length_map]
    exact sorted_by I hu hD hal hk hdp (by rw [List.length_map] at hz; exact hz) (fun Q' E' h => collect_list pl.isList (h _ _ (kp its) (big its) rfl rfl r) (by rw [List.length_map] at hz; omega)) q
  · obtain ⟨its, r, ⟨o, ho, hcl, n, hdt⟩, hz⟩ := I.tuple hsq
    have hl : its.length = zs.length := by rw [← r.length, List.length_map]
    exact sorted_by I hu hD hal hk hdp (by rw [List.length_map] at hz; exact hz) (fun Q' E' h => collect_tup ho hcl hdt (by rw [List.length_map] at hz; omega) (h _ _ (kp its) (big its) rfl rfl r)) q
end
end DX
namespace DL
open PySem PySem.Spec PyProof.Rows L2
variable {G : Type}
theorem CallR.or {X : Cx} {f : Value} {r r' : List V → Hp → VK → Prop} (h : CallR X f r) (h' : CallR X f r') : CallR X f (fun vs H Q => r vs H Q ∨ r' vs H Q) := fun pins s σ H vs us Q I rv q => q.elim (h pins s σ H vs us Q I rv) (h' pins s σ H vs us Q I rv)
section
variable {C : CF} {Fam : Wd G → Prop} {a b c : Expr} {fa fb fc : M G S} {pos p pos2 p2 : Pos}
theorem pe_set2 {ta : TE} (j : C.ι) (hm2 : C.mg "set" = none) (pa : PE (C.X j) a ta) (hg2 : Gl (C.X j) "set") (he : starEach [a] (C.X j).env = (false, eval a (C.X j).env) :: starEach [] (C.X j).env) :
    PE (C.X j) (.Call (.Name "set" p2) [a] [] pos2) (tCB (fun vs H Q => DX.rSetK C.w C.K vs H Q ∨ DX.rSetN C.w C.K vs H Q) (tCons ta tNil)) := by
  have hu := C.un j
  exact pe_callTy (T := "set") (CallR.or (by rw [← C.hK j, ← C.hw j]; exact DX.cr_setK (C.calm j) (by omega)) (by rw [← C.hK j, ← C.hw j]; exact DX.cr_setN (C.calm j) (by omega))) hg2 (by rw [C.hmg j]; exact hm2) (by decide +kernel) (pa_cons pa pa_nil he) (he := he)
theorem d_ss2 (hm : C.mg "sorted" = none) (hm2 : C.mg "set" = none) (ha : DE C Fam a fa) (hg : ∀ j, Gl (C.X j) "sorted" := by intro _; rfl) (hg2 : ∀ j, Gl (C.X j) "set" := by intro _; rfl)
    (he : ∀ j, starEach [a] (C.X j).env = (false, eval a (C.X j).env) :: starEach [] (C.X j).env := by intro _; rfl) : DE C Fam (.Call (.Name "sorted" p) [.Call (.Name "set" p2) [a] [] pos2] [] pos) (mUn opSS2 fa) := by
  obtain ⟨ta, pa, ea⟩ := ha.ex
  refine ⟨tUn (rSS2 C.w C.K) ta, fun j => ?_, fun W h => ev_un (ea W h) b_ss2⟩
  have hu := C.un j
  exact pe_callB (id := "sorted") (r := DX.rSortO C.w C.K) (by rw [← C.hK j, ← C.hw j]; exact DX.cr_sortO (C.calm j) (by omega)) (hg j) (by rw [C.hmg j]; exact hm) (by decide +kernel) (pa_cons (pe_set2 j hm2 (pa j) (hg2 j) (he j)) pa_nil)
end
/-! ### sorted(list), sorted(tuple), sorted(dict of texts) -/
def isTp : D → Bool
  | .tup _ => true
  | _ => false
def isAt : D → Bool
  | .tup _ => false
  | .non => false
  | .dct _ => false
  | .dcn _ => false
  | .obj _ => false
  | _ => true
def okSort (ds : List D) : Bool := D.pls ds && (ds.all fun a => ds.all fun b => PySem.W.alike a.py b.py) && decide (PyData.depthAll (D.pys ds) ≤ 100) && (ds.all isTp || ds.all isAt)
def opSort : D → Option S
  | .lst ds => if okSort ds = true then some (.ow (.lst (msD ds))) else none
  | .tup ds => if okSort ds = true then some (.ow (.lst (msD ds))) else none
  | .dct kvs => opSortD (.dct kvs)
  | _ => none
theorem rep_zip {K : PySem.W.Frag} {W : Wd G} {P : Hp} : ∀ {ds : List D} {xs : List V}, Reps K W P ds xs → ∃ zs : List (V × D), xs = zs.map (·.1) ∧ ds = zs.map (·.2) ∧ ∀ z ∈ zs, Rep K W P z.2 z.1
  | [], xs, h => by simp only [Reps] at h; subst h; exact ⟨[], rfl, rfl, fun z hz => by cases hz⟩
  | d :: ds, xs, h => by
    simp only [Reps] at h
    obtain ⟨v, r, rfl, h1, h2⟩ := h
    obtain ⟨zs, e1, e2, e3⟩ := rep_zip h2
    exact ⟨(v, d) :: zs, by rw [List.map_cons, ← e1], by rw [List.map_cons, ← e2], fun z hz => by
      rcases List.mem_cons.mp hz with rfl | hz
      · exact h1
      · exact e3 z hz⟩
theorem zip_rep {K : PySem.W.Frag} {W : Wd G} {P : Hp} : ∀ {zs : List (V × D)}, (∀ z ∈ zs, Rep K W P z.2 z.1) → Reps K W P (zs.map (·.2)) (zs.map (·.1))
  | [], _ => by simp [Reps]
  | z :: zs, h => by
    rw [List.map_cons, List.map_cons]
    simp only [Reps]
    exact ⟨_, _, rfl, h z List.mem_cons_self, zip_rep fun z hz => h z (List.mem_cons_of_mem _ hz)⟩
theorem pls_mem : ∀ {ds : List D}, D.pls ds = true → ∀ d ∈ ds, d.pl = true
  | d :: ds, h, e, he => by
    simp only [D.pls, Bool.and_eq_true] at h
    rcases List.mem_cons.mp he with rfl | he
    · exact h.1
    · exact pls_mem h.2 e he
theorem depth_mem : ∀ {ds : List D} {n : Nat}, PyData.depthAll (D.pys ds) ≤ n → ∀ d ∈ ds, d.py.depth ≤ n
  | d :: ds, n, h, e, he => by
    simp only [D.pys, PyData.depthAll] at h
    rcases List.mem_cons.mp he with rfl | he
    · omega
    · exact depth_mem (by omega) e he
theorem b_sortL {K : PySem.W.Frag} {W : Wd G} {P₀ H₀ P : Hp} {O : Addr → Option Tag} {σ : L2.St} {st : Sl} {τ : List V} {ts : List S} {H : Hp} {g : G} {Q : VK} (R : RelB K W P₀ H₀ P O σ st τ ts H g) {ds : List D} {a : Addr} {xs : List V}
    (hk : okSort ds = true) (hs : SqL K H a xs ∨ SqT K H a xs) (rs : Reps K W P ds xs) (hzl : ds.length ≤ sizeLine) (q : ∀ v H', Rel K W P₀ H₀ σ st (v :: τ) (.ow (.lst (msD ds)) :: ts) H' g → Q v H') : DX.rSortL K [.ref a] H Q := by
  simp only [okSort, Bool.and_eq_true, Bool.or_eq_true, decide_eq_true_eq] at hk
  obtain ⟨⟨⟨k1, k2⟩, k3⟩, k4⟩ := hk
  obtain ⟨zs, e1, e2, e3⟩ := rep_zip rs
  have mem : ∀ z ∈ zs, z.2 ∈ ds := fun z hz => by rw [e2]; exact List.mem_map_of_mem hz
  have mp : ∀ d ∈ (zs.map fun z => (z.1, z.2.py)).map (·.2), ∃ e ∈ ds, d = e.py := fun d hd => by
    rw [List.map_map] at hd
    obtain ⟨z, hz, rfl⟩ := List.mem_map.mp hd
    exact ⟨z.2, mem z hz, rfl⟩
  refine ⟨a, zs.map fun z => (z.1, z.2.py), rfl, by rw [List.map_map]; rw [e1] at hs; exact hs, fun z hz => ?_, fun d hd d' hd' => ?_, ?_, fun z hz => ?_, fun p hp => ?_⟩
  · obtain ⟨y, hy, rfl⟩ := List.mem_map.mp hz
    exact Rep.dp R.sub _ _ (pls_mem k1 _ (mem y hy)) (e3 y hy)
  · obtain ⟨e, he, rfl⟩ := mp d hd
    obtain ⟨e', he', rfl⟩ := mp d' hd'
    exact List.all_eq_true.mp (List.all_eq_true.mp k2 e he) e' he'
  · rcases k4 with k4 | k4
    · exact .inr fun d hd => by
        obtain ⟨e, he, rfl⟩ := mp d hd
        have := List.all_eq_true.mp k4 e he
        cases e with
        | tup xs => exact ⟨_, rfl⟩
        | _ => cases this
    · exact .inl (.inr fun d hd => by
        obtain ⟨e, he, rfl⟩ := mp d hd
        have := List.all_eq_true.mp k4 e he
        cases e <;> first | (cases this; done) | exact ⟨fun z => by simp [D.py] at z, fun xs z => by simp [D.py] at z⟩)
  · obtain ⟨y, hy, rfl⟩ := List.mem_map.mp hz
    exact depth_mem k3 _ (mem y hy)
  · have em : ((zs.map fun z => (z.1, z.2.py)).mergeSort (PySem.W.dataLe false (·.2))) = (zs.mergeSort fun a b => leD a.2 b.2).map fun z => (z.1, z.2.py) := by
      rw [List.map_mergeSort (s := PySem.W.dataLe false (·.2))]
      intro a _ b _
      rw [PySem.W.dataLe_eq]; rfl
    have ed : (zs.mergeSort fun a b => leD a.2 b.2).map (·.2) = msD ds := by
      rw [e2]
      exact List.map_mergeSort fun a _ b _ => rfl
    rw [em, List.map_map]
    refine q _ _ ?_
    rw [← ed]
    refine R.newLst hp (zip_rep fun z hz => e3 z ((List.mergeSort_perm _ _).mem_iff.mp hz)) ?_
    rw [List.length_map, List.length_mergeSort]
    have := congrArg List.length e2
    rw [List.length_map] at this
    omega
theorem b_sort {K : PySem.W.Frag} {W : Wd G} : B1 K W (fun v H Q => DX.rSortL K [v] H Q ∨ rSortedD [v] H Q) opSort := by
  intro P₀ H₀ P O σ st τ ts H g x dx z Q R rx h q
  cases dx with
  | lst ds =>
    simp only [opSort] at h
    split at h
    · rename_i hk
      cases h
      obtain ⟨a, xs, rfl, sq, hz, rs⟩ := rd1_lst.mp rx
      exact .inl (b_sortL R hk (.inl (SqL.of sq)) rs hz q)
    · cases h
  | tup ds =>
    simp only [opSort] at h
    split at h
    · rename_i hk
      cases h
      obtain ⟨a, xs, rfl, sq, hz, rs⟩ := rd1_tup.mp rx
      exact .inl (b_sortL R hk (.inr (R.sub.sqT sq.sq)) rs hz q)
    · cases h
  | dct kvs => exact .inr (b_sortD P₀ H₀ P O σ st τ ts H g x (.dct kvs) z Q R rx h q)
  | _ => cases h
section
variable {C : CF} {Fam : Wd G → Prop} {a b c : Expr} {fa fb fc : M G S} {pos p pos2 p2 : Pos}
theorem d_sort (hm : C.mg "sorted" = none) (ha : DE C Fam a fa) (hg : ∀ j, Gl (C.X j) "sorted" := by intro _; rfl) (he : ∀ j, starEach [a] (C.X j).env = (false, eval a (C.X j).env) :: starEach [] (C.X j).env := by intro _; rfl) : DE C Fam (.Call (.Name "sorted" p) [a] [] pos) (mUn opSort fa) :=
  d_cb (r := fun vs H Q => DX.rSortL C.K vs H Q ∨ rSortedD vs H Q) (fun j => CallR.or (by rw [← C.hK j]; exact DX.cr_sortL (by have := C.un j; omega)) (call_sortedD (C.calm j))) (fun W _ => b_sort) (by decide +kernel) hm ha hg (he := he)
end
end DL
namespace DL
open PySem PySem.Spec PyProof.Rows L2
/-! ### powers of greater numbers -/
/-! ### x is True -/
end DL
namespace DL
open PySem PySem.Spec PyProof.Rows L2
variable {G : Type}
/-! ### t * n -/
section
variable {C : CF} {Fam : Wd G → Prop} {a b c : Expr} {fa fb fc : M G S} {pos p pos2 p2 : Pos}
theorem OpR.or {X : Cx} {f : Value → Value → Sem Value} {r r' : R2} (h : OpR X f r) (h' : OpR X f r') : OpR X f (fun x y H Q => r x y H Q ∨ r' x y H Q) := fun pins s σ H x y v u Q I rx ry q => q.elim (h pins s σ H x y v u Q I rx ry) (h' pins s σ H x y v u Q I rx ry)
end
end DL
namespace DL
open PySem PySem.Spec PyProof.Rows L2
variable {G : Type}
/-! ### d.get(k, x) -/
def isDc : D → Bool
  | .dct _ => true
  | _ => false
def getK (dd : D) : D → D → Option S
  | .dct kvs, k => match keyD k with
    | some _ => some (.sh ((dlook kvs k).getD dd))
    | none => none
  | _, _ => none
def mGet2 (fo fk fd : M G S) : M G S := fun st g => bnd (fo st g) fun x st g => (peek x st).bind fun d0 => if isDc d0 = true then bnd (fk st g) fun k st g => bnd (mTake fd st g) fun dd st g => (peek x st).bind fun dx => (peek k st).bind fun dk => (getK dd dx dk).map fun z => (z, st, g) else none
theorem ev_get2 {K : PySem.W.Frag} {W : Wd G} {ta tb tc : TE} {fa fb fc : M G S} (ha : EvE K W ta fa) (hb : EvE K W tb fb) (hc : EvE K W tc fc) : EvE K W (tDGet2 ta tb tc) (mGet2 fa fb fc) := by
  intro P₀ H₀ σ st τ ts H g z st' g' Q R h q
  obtain ⟨x, st1, g1, e1, h⟩ := bnd_eq h
  obtain ⟨d0, e0, h⟩ := Option.bind_eq_some_iff.mp h
  split at h
  · rename_i hd
    obtain ⟨k, st2, g2, e2, h⟩ := bnd_eq h
    obtain ⟨dd, st3, g3, e3, h⟩ := bnd_eq h
    obtain ⟨dx, e4, h⟩ := Option.bind_eq_some_iff.mp h
    obtain ⟨dk, e5, h⟩ := Option.bind_eq_some_iff.mp h
    obtain ⟨z', e6, h⟩ := Option.map_eq_some_iff.mp h
    simp only [Prod.mk.injEq] at h; obtain ⟨rfl, rfl, rfl⟩ := h
    obtain ⟨y, st0, e7, e8⟩ := mTake_eq e3
    refine ha _ _ _ _ _ _ _ _ _ _ _ _ R e1 fun v1 H1 R1 => ?_
    have R1' := R1
    obtain ⟨P1, O1, B1⟩ := R1
    have r0 := B1.peekV e0
    cases d0 with
    | dct kvs0 =>
      obtain ⟨pa, o, ks, rfl, eH, ⟨ks', hdk0, rfl⟩, rp⟩ := r0
      refine ⟨pa, rfl, .inl ⟨ks', hdk0.rd eH⟩, ?_⟩
      refine hb _ _ _ _ _ _ _ _ _ _ _ _ R1' e2 fun v2 H2 R2 => ?_
      refine hc _ _ _ _ _ _ _ _ _ _ _ _ R2 e7 fun v3 H3 R3 => ?_
      obtain ⟨P, O, R3⟩ := R3
      obtain ⟨P', O', R3⟩ := R3.takeV e8
      have r1 := R3.pop.pop.peekV e4
      have r2 := R3.pop.peekV e5
      have r3 : Rep K W P' dd v3 := R3.temps.1
      cases dx with
      | dct kvs =>
        simp only [getK] at e6
        cases hk : keyD dk with
        | none => rw [hk] at e6; cases e6
        | some kk =>
          rw [hk] at e6
          cases e6
          obtain ⟨pa', o, ks, epa, eH, ⟨ks', hdk1, rfl⟩, rp⟩ := r1
          cases epa
          have ey := rd1_key hk r2
          subst ey
          have hdk := kD_of hk
          subst hdk
          rcases rp.look kk with ⟨f1, f2⟩ | ⟨d', v, f1, f2, rv⟩
          · refine ⟨none, .inl ⟨ks', kk, hdk1.rd eH, rfl, f2.symm⟩, q _ _ ?_⟩
            rw [f1]
            exact R3.pop.pop.pop.ofSh r3
          · refine ⟨some v, .inl ⟨ks', kk, hdk1.rd eH, rfl, f2.symm⟩, q _ _ ?_⟩
            rw [f1]
            exact R3.pop.pop.pop.ofSh rv
      | _ => cases e6
    | _ => cases hd
  · cases h
section
variable {C : CF} {Fam : Wd G → Prop} {a b c : Expr} {fa fb fc : M G S} {pos p pos2 p2 : Pos}
theorem d_get2 (ha : DE C Fam a fa) (hb : DE C Fam b fb) (hc : DE C Fam c fc) (hM : ∀ j, M2 (C.X j) a "get" p b c pos := by intro _; exact ⟨rfl, rfl, rfl, rfl⟩) : DE C Fam (.Call (.Attribute a "get" p) [b, c] [] pos) (mGet2 fa fb fc) := by
  obtain ⟨ta, pa, ea⟩ := ha.ex
  obtain ⟨tb, pb, eb⟩ := hb.ex
  obtain ⟨tc, pc, ec⟩ := hc.ex
  exact ⟨_, fun j => pe_dget2 (by have := C.un j; omega) (pa j) (pb j) (pc j) (hM j), fun W h => ev_get2 (ea W h) (eb W h) (ec W h)⟩
end
end DL
namespace DL
open PySem PySem.Spec PyProof.Rows L2
variable {G : Type}
/-! ### [e for a in xs for b in ys] -/
section
variable {K : PySem.W.Frag} {W : Wd G} {P₀ H₀ P H : Hp} {O : Addr → Option Tag} {σ : L2.St} {st : Sl} {τ : List V} {ts : List S} {g : G} {d : D}
theorem TOk.at : ∀ {ρ : List V} {rs : List S} {v : V} {s : S}, ρ.length = rs.length → TOk K W P O H σ (ρ ++ (v :: τ)) (rs ++ (s :: ts)) → SOk K W P O H σ (.tmp τ.length) v s
  | [], [], _, _, _, h => h.1
  | _ :: _, _ :: _, _, _, hl, h => TOk.at (by simpa using hl) h.2
  | [], _ :: _, _, _, hl, _ => by simp at hl
  | _ :: _, [], _, _, hl, _ => by simp at hl
end
end DL
namespace DL
open PySem PySem.Spec PyProof.Rows L2
end DL
namespace DL
open PySem PySem.Spec PyProof.Rows L2
variable {G : Type}
/-! ### sorted(d.items()) -/
theorem rep_kD {K : PySem.W.Frag} {W : Wd G} {P : Hp} (k : Key) : Rep K W P (kD k) (kV k) := by
  cases k <;> simp [kD, kV, Rep]
theorem repk_len {K : PySem.W.Frag} {W : Wd G} {P : Hp} : ∀ {kvs : List (D × D)} {ks : List (D × V)}, Repk K W P kvs ks → kvs.length = ks.length
  | [], ks, h => by
    cases ks with
    | nil => rfl
    | cons k ks => simp [Repk] at h
  | p :: kvs, ks, h => by
    obtain ⟨k, d⟩ := p
    simp only [Repk] at h
    obtain ⟨v, r, rfl, _, h2⟩ := h
    rw [List.length_cons, List.length_cons, repk_len h2]
end DL
namespace DL
open PySem PySem.Spec PyProof.Rows L2
variable {G : Type}
/-! ### t.index(x), a tuple of texts -/
def isTu : D → Bool
  | .tup _ => true
  | _ => false
def idxS (z : Str) : List Str → Nat
  | [] => 0
  | y :: ys => if y = z then 0 else idxS z ys + 1
def opIdx : D → D → Option S
  | .tup ds, .str z => match textsD ds with
    | some ys => if z ∈ ys then some (.sh (.int (idxS z ys))) else none
    | none => none
  | _, _ => none
def mIdx (fo fk : M G S) : M G S := fun st g => bnd (fo st g) fun x st g => (peek x st).bind fun d0 => if isTu d0 = true then bnd (fk st g) fun k st g => (peek x st).bind fun dx => (peek k st).bind fun dk => (opIdx dx dk).map fun z => (z, st, g) else none
end DL
namespace DL
open PySem PySem.Spec PyProof.Rows L2
variable {G : Type}
/-! ### a dict at d may be locked or not: all reads stay -/
structure Alike (d : Addr) (ks : List (Key × V)) (P P' : Hp) : Prop where
  off : ∀ a, a ≠ d → P' a = P a
  old : ∃ o, P d = some o ∧ IsDK o ks
  new : ∃ o, P' d = some o ∧ IsDK o ks
section
variable {K : PySem.W.Frag} {W : Wd G} {d : Addr} {ks : List (Key × V)} {P P' : Hp}
theorem Alike.lst {a : Addr} {xs : List V} (h : Alike d ks P P') (e : P a = some (.lst xs)) : P' a = some (.lst xs) := by
  by_cases z : a = d
  · subst z
    obtain ⟨o, e2, i⟩ := h.old
    rw [e] at e2; cases e2
    rcases i with i | ⟨_, i⟩ <;> cases i
  · rw [h.off a z]; exact e
theorem Alike.tup {a : Addr} {xs : List V} (h : Alike d ks P P') (e : DY.TupP K P a xs) : DY.TupP K P' a xs := by
  rcases e with ⟨o, e, hd⟩ | e
  · refine .inl ⟨o, ?_, hd⟩
    by_cases z : a = d
    · subst z
      obtain ⟨o', e2, i⟩ := h.old
      rw [e] at e2; cases e2
      rcases i with i | ⟨_, i⟩ <;> cases i
    · rw [h.off a z]; exact e
  · exact .inr e
theorem IsDK.one {o : HO} {a b : List (Key × V)} (h : IsDK o a) (h' : IsDK o b) : a = b := by
  rcases h with rfl | ⟨x, rfl⟩
  · rcases h' with h' | ⟨_, h'⟩
    · cases h'; rfl
    · cases h'
  · rcases h' with h' | ⟨_, h'⟩
    · cases h'
    · cases h'; rfl
theorem Alike.dct {a : Addr} {o : HO} {kk : List (D × V)} (h : Alike d ks P P') (e : P a = some o) (i : DObj o kk) : ∃ o', P' a = some o' ∧ DObj o' kk := by
  by_cases z : a = d
  · subst z
    obtain ⟨o1, e1, i1⟩ := h.old
    obtain ⟨o2, e2, i2⟩ := h.new
    rw [e] at e1; cases e1
    obtain ⟨kvs, hk, rfl⟩ := i
    have := hk.one i1
    subst this
    exact ⟨o2, e2, _, i2, rfl⟩
  · exact ⟨o, by rw [h.off a z]; exact e, i⟩
theorem Alike.dcn {w : World} {a : Addr} {o : HO} {xs : List (NestedKey × Addr × Value)} (h : Alike d ks P P') (e : P a = some o) (i : IsDN w a o xs) : P' a = some o := by
  by_cases z : a = d
  · subst z
    obtain ⟨o1, e1, i1⟩ := h.old
    rw [e] at e1; cases e1
    rcases i with rfl | ⟨_, rfl⟩
    · rcases i1 with i1 | ⟨_, i1⟩ <;> cases i1
    · rcases i1 with i1 | ⟨_, i1⟩ <;> cases i1
  · rw [h.off a z]; exact e
mutual
theorem Alike.rep (h : Alike d ks P P') : ∀ (x : D) (v : V), Rep K W P x v → Rep K W P' x v
  | .non, v, r => r
  | .bl _, v, r => r
  | .int _, v, r => r
  | .str _, v, r => r
  | .tup xs, v, r => by
    simp only [Rep] at r ⊢
    obtain ⟨a, ys, e, t, z, r⟩ := r
    exact ⟨a, ys, e, h.tup t, z, Alike.reps h xs ys r⟩
  | .lst xs, v, r => by
    simp only [Rep] at r ⊢
    obtain ⟨a, ys, e, t, z, r⟩ := r
    exact ⟨a, ys, e, h.lst t, z, Alike.reps h xs ys r⟩
  | .dct kvs, v, r => by
    simp only [Rep] at r ⊢
    obtain ⟨a, o, kk, e, t, i, r⟩ := r
    obtain ⟨o', t', i'⟩ := h.dct t i
    exact ⟨a, o', kk, e, t', i', Alike.repk h kvs kk r⟩
  | .dcn kvs, v, r => by
    simp only [Rep] at r ⊢
    obtain ⟨a, o, xs, e, t, i, r⟩ := r
    exact ⟨a, o, xs, e, h.dcn t i, i, Alike.repn h kvs xs r⟩
  | .obj _, v, r => r
theorem Alike.reps (h : Alike d ks P P') : ∀ (xs : List D) (vs : List V), Reps K W P xs vs → Reps K W P' xs vs
  | [], vs, r => r
  | x :: xs, vs, r => by
    simp only [Reps] at r ⊢
    obtain ⟨v, r', e, h1, h2⟩ := r
    exact ⟨v, r', e, Alike.rep h x v h1, Alike.reps h xs r' h2⟩
theorem Alike.repk (h : Alike d ks P P') : ∀ (xs : List (D × D)) (vs : List (D × V)), Repk K W P xs vs → Repk K W P' xs vs
  | [], vs, r => r
  | (k, x) :: xs, vs, r => by
    simp only [Repk] at r ⊢
    obtain ⟨v, r', e, h1, h2⟩ := r
    exact ⟨v, r', e, Alike.rep h x v h1, Alike.repk h xs r' h2⟩
theorem Alike.repn (h : Alike d ks P P') : ∀ (ds : List (D × D)) (xs : List (NestedKey × Addr × Value)), Repn K W P ds xs → Repn K W P' ds xs
  | [], xs, r => r
  | (k, x) :: ds, xs, r => by
    simp only [Repn] at r ⊢
    obtain ⟨nk, b, u, v, r', e, h1, h2, h3, h4, h5, h6⟩ := r
    exact ⟨nk, b, u, v, r', e, h1, h2, Alike.rep h k _ h3, h4, Alike.rep h x v h5, Alike.repn h ds r' h6⟩
end
theorem Alike.own {a : Addr} {o : HO} {x : D} (h : Alike d ks P P') (r : Own K W P a o x) : Own K W P' a o x := by
  cases x with
  | lst xs => obtain ⟨ys, e, z, r⟩ := r; exact ⟨ys, e, z, h.reps _ _ r⟩
  | dct kvs => obtain ⟨kk, i, r⟩ := r; exact ⟨kk, i, h.repk _ _ r⟩
  | dcn kvs => obtain ⟨xs, i, r⟩ := r; exact ⟨xs, i, h.repn _ _ r⟩
  | _ => exact r.elim
theorem Alike.sok {O : Addr → Option Tag} {H H' : Hp} {σ : L2.St} {t : Tag} {v : V} {s : S} (h : Alike d ks P P') (hO : O d = none) (hH : ∀ a, a ≠ d → H' a = H a) (r : SOk K W P O H σ t v s) : SOk K W P' O H' σ t v s := by
  cases s with
  | sh x => exact h.rep _ _ r
  | ow x =>
    obtain ⟨a, o, e, eO, eH, q⟩ := r
    have hne : a ≠ d := fun z => by rw [z, hO] at eO; cases eO
    exact ⟨a, o, e, eO, by rw [hH a hne]; exact eH, h.own q⟩
  | «at» i => exact r
  | any => trivial
theorem Alike.tok {O : Addr → Option Tag} {H H' : Hp} {σ : L2.St} (h : Alike d ks P P') (hO : O d = none) (hH : ∀ a, a ≠ d → H' a = H a) : ∀ {τ : List V} {ts : List S}, TOk K W P O H σ τ ts → TOk K W P' O H' σ τ ts
  | [], [], _ => trivial
  | v :: τ, s :: ts, r => ⟨h.sok hO hH r.1, Alike.tok h hO hH r.2⟩
  | [], _ :: _, r => r.elim
  | _ :: _, [], r => r.elim
end
end DL
namespace DL
open PySem PySem.Spec PyProof.Rows L2
variable {G : Type}
/-! ### locking a shared dict, and opening it again -/
def lockM (d : Addr) (o : HO) (M : Hp) : Hp := fun a => if a = d then (M a).map (fun _ => o) else M a
theorem lockM_off {d a : Addr} {o : HO} {M : Hp} (h : a ≠ d) : lockM d o M a = M a := by unfold lockM; rw [if_neg h]
section
variable {K : PySem.W.Frag} {W : Wd G} {P₀ H₀ P H : Hp} {O : Addr → Option Tag} {σ : L2.St} {st : Sl} {τ : List V} {ts : List S} {g : G} {d : Addr} {ks : List (Key × V)} {od : Obj}
theorem RelB.noOwn {o : HO} (R : RelB K W P₀ H₀ P O σ st τ ts H g) (e : P d = some o) : O d = none := by
  cases q : O d with
  | none => rfl
  | some t => have := (R.own d t q).1; rw [e] at this; cases this
theorem RelB.lock (R : RelB K W P₀ H₀ P O σ st τ ts H g) (e : P d = some (.dK ks)) : RelB K W (upd P d (.frz od (.dK ks))) (lockM d (.frz od (.dK ks)) H₀) (upd P d (.frz od (.dK ks))) O σ st τ ts (upd H d (.frz od (.dK ks))) g := by
  have nO := R.noOwn e
  have nf : ¬ W.fp d := R.nfp d (by rw [e]; simp)
  have al : Alike d ks P (upd P d (.frz od (.dK ks))) := ⟨fun a h => upd_ne h, ⟨_, e, .inl rfl⟩, ⟨_, upd_same, .inr ⟨_, rfl⟩⟩⟩
  have hH : ∀ a, a ≠ d → upd H d (.frz od (.dK ks)) a = H a := fun a h => upd_ne h
  refine ⟨fun a u z => ?_, fun a u z n => ?_, Sub.refl _, fun a z => .inl z, fun a z => ?_, fun a t z => ?_, W.loc g H _ R.wld fun b hb => upd_ne fun y => nf (y ▸ hb), R.len, fun i s z => ?_, al.tok nO hH R.temps⟩
  · by_cases h : a = d
    · subst h; rw [upd_same] at z ⊢; exact z
    · rw [upd_ne h] at z ⊢; exact R.sub a u z
  · by_cases h : a = d
    · subst h
      unfold lockM at z
      rw [if_pos rfl] at z
      obtain ⟨x, _, rfl⟩ := Option.map_eq_some_iff.mp z
      exact upd_same
    · rw [lockM_off h] at z; rw [upd_ne h]; exact R.base a u z n
  · by_cases h : a = d
    · subst h; exact nf
    · rw [upd_ne h] at z; exact R.nfp a z
  · have h : a ≠ d := fun y => by rw [y, nO] at z; cases z
    rw [upd_ne h, upd_ne h, lockM_off h]
    exact R.own a t z
  · obtain ⟨v, e1, e2, q⟩ := R.slots i s z
    exact ⟨v, e1, e2, al.sok nO hH q⟩
theorem RelB.unlock {P' H' : Hp} {O' : Addr → Option Tag} {σ' : L2.St} {st' : Sl} {τ' : List V} {ts' : List S} {g' : G} (R : RelB K W P₀ H₀ P O σ st τ ts H g) (e : P d = some (.dK ks)) (R' : RelB K W (upd P d (.frz od (.dK ks))) (lockM d (.frz od (.dK ks)) H₀) P' O' σ' st' τ' ts' H' g') :
    H' d = some (.frz od (.dK ks)) ∧ RelB K W P₀ H₀ (upd P' d (.dK ks)) O' σ' st' τ' ts' (upd H' d (.dK ks)) g' := by
  have eP : P' d = some (.frz od (.dK ks)) := R'.p0 d _ upd_same
  have eH : H d = some (.dK ks) := R.sub d _ e
  have nO := R'.noOwn eP
  have nf : ¬ W.fp d := R.nfp d (by rw [e]; simp)
  have al : Alike d ks P' (upd P' d (.dK ks)) := ⟨fun a h => upd_ne h, ⟨_, eP, .inr ⟨_, rfl⟩⟩, ⟨_, upd_same, .inl rfl⟩⟩
  have hH : ∀ a, a ≠ d → upd H' d (.dK ks) a = H' a := fun a h => upd_ne h
  refine ⟨R'.sub d _ eP, fun a u z => ?_, fun a u z n => ?_, fun a u z => ?_, fun a z => ?_, fun a z => ?_, fun a t z => ?_, W.loc g' H' _ R'.wld fun b hb => upd_ne fun y => nf (y ▸ hb), R'.len, fun i s z => ?_, al.tok nO hH R'.temps⟩
  · by_cases h : a = d
    · subst h; rw [upd_same] at z ⊢; exact z
    · rw [upd_ne h] at z ⊢; exact R'.sub a u z
  · by_cases h : a = d
    · subst h
      have := R.base a u z n
      rw [eH] at this; cases this
      exact upd_same
    · rw [upd_ne h]; exact R'.base a u (by rw [lockM_off h]; exact z) n
  · have z1 := R.p0 a u z
    by_cases h : a = d
    · subst h
      rw [e] at z1; cases z1
      exact upd_same
    · rw [upd_ne h]; exact R'.p0 a u (by rw [upd_ne h]; exact z1)
  · by_cases h : a = d
    · subst h; exact R.new a (by rw [e]; simp)
    · rw [upd_ne h] at z
      rcases R'.new a z with q | q
      · rw [upd_ne h] at q; exact R.new a q
      · rw [lockM_off h] at q; exact .inr q
  · by_cases h : a = d
    · subst h; exact nf
    · rw [upd_ne h] at z; exact R'.nfp a z
  · have h : a ≠ d := fun y => by rw [y, nO] at z; cases z
    obtain ⟨q1, q2, q3, q4⟩ := R'.own a t z
    rw [lockM_off h] at q2
    rw [upd_ne h, upd_ne h]
    exact ⟨q1, q2, q3, q4⟩
  · obtain ⟨v, e1, e2, q⟩ := R'.slots i s z
    exact ⟨v, e1, e2, al.sok nO hH q⟩
end
end DL
namespace DL
open PySem PySem.Spec PyProof.Rows L2
variable {G : Type}
/-! ### a comprehension over what a name holds: also a dict -/
def Yields0 (K : PySem.W.Frag) (W : Wd G) (P₀ H₀ : Hp) (A : Bool) (J : It) (items : List D) (cv : List V) (cells : List S) : Prop :=
  items.length ≤ sizeLine ∧ cv.length = cells.length ∧ NoAt cells ∧
  ∀ (σ : L2.St) (st : Sl) (ρ : List V) (rs : List S) (τ : List V) (ts : List S) (H : Hp) (g : G), ρ.length = rs.length → Rel K W P₀ H₀ σ st (ρ ++ (cv ++ τ)) (rs ++ (cells ++ ts)) H g →
    (∀ (i : Nat) d, items[i]? = some d → J.go i H ∧ ∀ x H', J.yld i H x H' → ∃ P O, RelB K W P₀ H₀ P O σ st (ρ ++ (cv ++ τ)) (rs ++ (cells ++ ts)) H' g ∧ RepF K W P A d x) ∧
    (∀ i, items.length ≤ i → J.stop i H)
theorem lc_run0 {K : PySem.W.Frag} {W : Wd G} {J : It} {items : List D} {cv : List V} {cells : List S} {tg : TG} {tt : TT} {te : TE} {p : Pt} {vs : List Nat} {test : M G Bool} {elt : M G S} {A : Bool} {P₀ H₀ : Hp} (hA : A = true → p.isTp = true)
    (hY : Yields0 K W P₀ H₀ A J items cv cells) (hg : EvG K W tg p) (ht : EvT K W tt test) (he : EvE K W te elt) (hv : ∀ i ∈ p.ix, i ∈ vs)
    {σ : L2.St} {st : Sl} {τ : List V} {ts : List S} {H1 : Hp} {g : G} {accN : List D} {stN : Sl} {gN : G} {Qd : Hp → Prop} {D0 : Addr} (h0 : H1 D0 = none)
    (R : Rel K W P₀ H₀ σ st (cv ++ τ) (cells ++ ts) H1 g) (h : compM p vs test elt items [] st g = some (accN, stN, gN))
    (q : ∀ H', Rel K W P₀ H₀ σ (wipeS stN vs) (.ref D0 :: (cv ++ τ)) (.ow (.lst accN) :: (cells ++ ts)) H' gN → Qd H') :
    ∃ Wi : Nat → Nat → Hp → Prop, (∃ m, Wi 0 m (upd H1 D0 (.lst []))) ∧ ∀ i m H, Wi i m H →
      (J.stop i H ∧ Qd H) ∨ (J.go i H ∧ ∃ Nx : Hp → Prop, (∀ H', Nx H' → ∃ m', m' < m ∧ Wi (i + 1) m' H') ∧ ∀ x H', J.yld i H x H' → tg x (wipe σ vs) H' fun σ2 H2 => wipe σ2 vs = wipe σ vs ∧ tt σ2 H2 fun b H3 =>
        if b = true then te σ2 H3 fun y H4 => ∃ acc, H4 D0 = some (.lst acc) ∧ acc.length < sizeLine ∧ Nx (upd H4 D0 (.lst (acc ++ [y]))) else Nx H3) := by
  obtain ⟨hz, hcl, hna, hYy⟩ := hY
  have nh : NoAt (cells ++ ts.map DL.hide) := hna.app (hide_noAt ts)
  have nh2 : ∀ d, NoAt (.ow d :: (cells ++ ts.map DL.hide)) := fun d i z => by
    rcases List.mem_cons.mp z with z | z
    · cases z
    · exact nh i z
  have hlen : ∀ {P O σ H}, TOk K W P O H σ (cv ++ τ) (cells ++ ts) → τ.length = ts.length := fun t => by
    have := t.len; rw [List.length_append, List.length_append, hcl] at this; omega
  refine ⟨fun i m H => i + m = items.length ∧ ∃ st g acc, Rel K W P₀ H₀ (wipe σ vs) (wipeS st vs) (.ref D0 :: (cv ++ τ)) (.ow (.lst acc) :: (cells ++ ts.map DL.hide)) H g ∧ acc.length ≤ i ∧ compM p vs test elt (items.drop i) acc st g = some (accN, stN, gN),
    ⟨items.length, by omega, st, g, [], ?_, Nat.le_refl _, by simpa using h⟩, fun i m H hW => ?_⟩
  · obtain ⟨P, O, R⟩ := R
    have R' : RelB K W P₀ H₀ P O σ st (cv ++ τ) (cells ++ ts.map DL.hide) H1 g := by
      have := R.hide
      rw [List.map_append] at this
      have e : cells.map DL.hide = cells := by
        have : ∀ cs : List S, NoAt cs → cs.map DL.hide = cs := by
          intro cs
          induction cs with
          | nil => intro _; rfl
          | cons c cs ih =>
            intro n
            rw [List.map_cons, ih fun i z => n i (List.mem_cons_of_mem _ z)]
            cases c with
            | «at» j => exact absurd List.mem_cons_self (n j)
            | _ => rfl
        exact this cells hna
      rw [e] at this; exact this
    obtain ⟨O', R2⟩ := R'.laidOwn (d := .lst []) h0 ⟨[], rfl, Nat.zero_le _, by simp [Reps]⟩
    exact ⟨P, O', R2.wipe (nh2 _)⟩
  · obtain ⟨em, st2, g2, acc, R2, ha, h2⟩ := hW
    obtain ⟨hgo, hstop⟩ := hYy _ _ [.ref D0] [.ow (.lst acc)] τ (ts.map DL.hide) H g2 rfl R2
    by_cases hlt : i < items.length
    · right
      have ei : items[i]? = some items[i] := List.getElem?_eq_getElem hlt
      obtain ⟨h3, h4⟩ := hgo i _ ei
      rw [drop_at ei] at h2
      simp only [compM] at h2
      obtain ⟨st3, e3, h2⟩ := Option.bind_eq_some_iff.mp h2
      obtain ⟨b, st4, g4, e4, h2⟩ := bnd_eq h2
      refine ⟨h3, fun H' => i + 1 + (m - 1) = items.length ∧ ∃ st g acc, Rel K W P₀ H₀ (wipe σ vs) (wipeS st vs) (.ref D0 :: (cv ++ τ)) (.ow (.lst acc) :: (cells ++ ts.map DL.hide)) H' g ∧ acc.length ≤ i + 1 ∧ compM p vs test elt (items.drop (i + 1)) acc st g = some (accN, stN, gN), fun H' hN => ⟨m - 1, by omega, hN⟩, fun x H' hy => ?_⟩
      obtain ⟨P, O, R3, r3⟩ := h4 x H' hy
      refine hg _ _ _ _ _ _ _ _ _ _ _ _ _ _ A hA (nh2 _) R3 r3 e3 fun σ2 w2 R4 => ?_
      have w3 : wipe σ2 vs = wipe σ vs := by
        rw [w2 vs hv]
        exact wipe_wipe σ vs
      refine ⟨w3, ht _ _ _ _ _ _ _ _ _ _ _ _ ⟨P, O, R4⟩ e4 fun H3 R5 => ?_⟩
      cases b with
      | false =>
        rw [if_neg (by simp)] at h2 ⊢
        obtain ⟨P, O, R5⟩ := R5
        have R6 := R5.wipe (vs := vs) (nh2 _)
        rw [w3] at R6
        exact ⟨by omega, st4, g4, acc, ⟨P, O, R6⟩, by omega, h2⟩
      | true =>
        rw [if_pos rfl] at h2 ⊢
        obtain ⟨y, st5, g5, e5, h2⟩ := bnd_eq h2
        obtain ⟨r, st0, e6, e7⟩ := mTake_eq e5
        refine he _ _ _ _ _ _ _ _ _ _ _ _ R5 e6 fun v H4 R6 => ?_
        obtain ⟨P, O, R6⟩ := R6
        obtain ⟨P', O', R6⟩ := R6.takeV e7
        have ry : Rep K W P' y v := R6.temps.1
        have R7 := R6.pop
        obtain ⟨a', o, ev, eO, eH, xs, rfl, hzx, rx⟩ := R7.temps.1
        cases ev
        have hzz : acc.length + 1 ≤ sizeLine := by omega
        refine ⟨xs, eH, by rw [rx.length]; omega, by omega, st5, g5, acc ++ [y], ?_, by simp; omega, h2⟩
        have R8 := (R7.writeT (o' := .lst (xs ++ [v])) (d' := .lst (acc ++ [y])) ⟨_, rfl, by simp; omega, rx.append (Reps.one ry)⟩).wipe (vs := vs) (nh2 _)
        rw [w3] at R8
        exact ⟨P', O', R8⟩
    · left
      have hle : items.length ≤ i := Nat.le_of_not_lt hlt
      rw [List.drop_eq_nil_of_le hle] at h2
      simp only [compM, Option.some.injEq, Prod.mk.injEq] at h2; obtain ⟨rfl, rfl, rfl⟩ := h2
      refine ⟨hstop i hle, q _ ?_⟩
      obtain ⟨P, O, R2⟩ := R2
      obtain ⟨P1, O1, R1⟩ := R
      have R3 := R2.unwipe (nh2 _)
      refine ⟨P, O, { R3 with temps := ⟨R3.temps.1, ?_⟩ }⟩
      have t1 : TOk K W P1 O1 H1 σ (cv ++ τ) (cells ++ ts) := R1.temps
      have t2 : TOk K W P O H σ (cv ++ τ) (cells ++ ts.map DL.hide) := R3.temps.2
      -- the cells have no at
      have : ∀ (cv : List V) (cells : List S), cv.length = cells.length → NoAt cells → TOk K W P1 O1 H1 σ (cv ++ τ) (cells ++ ts) → TOk K W P O H σ (cv ++ τ) (cells ++ ts.map DL.hide) → TOk K W P O H σ (cv ++ τ) (cells ++ ts) := by
        intro cv
        induction cv with
        | nil => intro cells hl n a b; cases cells with
          | nil => exact TOk.unhide a b
          | cons c cs => simp at hl
        | cons c cv ih => intro cells hl n a b; cases cells with
          | nil => simp at hl
          | cons s cs =>
            refine ⟨?_, ih cs (by simpa using hl) (fun i z => n i (List.mem_cons_of_mem _ z)) a.2 b.2⟩
            have b1 := b.1
            have e : (cv ++ τ).length = (cv ++ τ).length := rfl
            exact b1
      exact this cv cells hcl hna t1 t2
theorem RelB.rebase {K : PySem.W.Frag} {W : Wd G} {P₀ H₀ P H P' H' : Hp} {O O' : Addr → Option Tag} {σ σ' : L2.St} {st st' : Sl} {τ τ' : List V} {ts ts' : List S} {g g' : G} (R : RelB K W P₀ H₀ P O σ st τ ts H g) (R' : RelB K W P H₀ P' O' σ' st' τ' ts' H' g') : RelB K W P₀ H₀ P' O' σ' st' τ' ts' H' g' :=
  { R' with p0 := R.p0.trans R'.p0, new := fun a e => (R'.new a e).elim (R.new a) .inr }
theorem RelB.self {K : PySem.W.Frag} {W : Wd G} {P₀ H₀ P H : Hp} {O : Addr → Option Tag} {σ : L2.St} {st : Sl} {τ : List V} {ts : List S} {g : G} (R : RelB K W P₀ H₀ P O σ st τ ts H g) : RelB K W P H₀ P O σ st τ ts H g :=
  { R with p0 := Sub.refl P, new := fun a e => .inl e }
theorem keys_rep {K : PySem.W.Frag} {W : Wd G} {P : Hp} : ∀ {kvs : List (D × D)} {ks : List (Key × V)}, Repk K W P kvs (ks.map fun p => (kD p.1, p.2)) → kvs.map (·.1) = ks.map fun p => kD p.1
  | [], ks, h => by
    cases ks with
    | nil => rfl
    | cons k ks => simp [Repk] at h
  | (k, d) :: kvs, ks, h => by
    cases ks with
    | nil => simp [Repk] at h
    | cons kv ks =>
      rw [List.map_cons] at h
      simp only [Repk] at h
      obtain ⟨v, r, e, _, h2⟩ := h
      simp only [List.cons.injEq, Prod.mk.injEq] at e
      obtain ⟨⟨e1, e2⟩, e3⟩ := e
      subst e1 e2 e3
      rw [List.map_cons, List.map_cons, keys_rep h2]
theorem yields_keys {K : PySem.W.Frag} {W : Wd G} {P₀ H₀ : Hp} {d : Addr} {od : Obj} {ks : List (Key × V)} (e : P₀ d = some (.frz od (.dK ks))) (hz : ks.length ≤ sizeLine) : Yields0 K W P₀ H₀ false (Itk d od ks) (ks.map fun p => kD p.1) [] [] := by
  refine ⟨by rw [List.length_map]; exact hz, rfl, (fun i h => by cases h), fun σ st ρ rs τ ts H g hl R => ?_⟩
  obtain ⟨P, O, R⟩ := R
  have eH : H d = some (.frz od (.dK ks)) := R.sub d _ (R.p0 d _ e)
  refine ⟨fun i x hi => ?_, fun i hi => ⟨eH, by rwa [List.length_map] at hi⟩⟩
  rw [List.getElem?_map] at hi
  obtain ⟨kv, ek, rfl⟩ := Option.map_eq_some_iff.mp hi
  refine ⟨⟨eH, (List.getElem?_eq_some_iff.mp ek).1⟩, fun x H' hy => ?_⟩
  obtain ⟨rfl, k, v, e2, rfl⟩ := hy
  rw [ek] at e2
  cases e2
  exact ⟨P, O, R, by unfold RepF; rw [if_neg (by simp)]; exact rep_kD k⟩
/-- [e for p in x if t], x a name that holds a dict -/
def mLcK (i : Nat) (p : Pt) (vs : List Nat) (test : M G Bool) (elt : M G S) : M G S := fun st g => bnd (mTake (mVar i) st g) fun d st g => match d with
  | .dct kvs => if kvs.length ≤ sizeLine then bnd (compM p vs test elt (kvs.map (·.1)) [] st g) fun acc st g => some (.ow (.lst acc), wipeS st vs, g) else none
  | _ => none
theorem ev_lcK {K : PySem.W.Frag} {W : Wd G} {tg : TG} {tt : TT} {te : TE} {i : Nat} {p : Pt} {vs : List Nat} {test : M G Bool} {elt : M G S} (hg : EvG K W tg p) (ht : EvT K W tt test) (he : EvE K W te elt) (hv : ∀ i ∈ p.ix, i ∈ vs) :
    EvE K W (fun σ H Q => tLc (iKeys (tVar i)) tg tt te vs σ H Q ∨ tLockE (tLc (iKeys (tVar i)) tg tt te vs) σ H Q) (mLcK i p vs test elt) := by
  intro P₀ H₀ σ st τ ts H g r st' g' Q R h q
  obtain ⟨dd, st1, g1, e1, h⟩ := bnd_eq h
  obtain ⟨x, st0, e3, e4⟩ := mTake_eq e1
  cases dd with
  | dct kvs =>
    simp only at h
    split at h
    · rename_i hz
      obtain ⟨acc, st2, g2, e2, h⟩ := bnd_eq h
      simp only [Option.some.injEq, Prod.mk.injEq] at h; obtain ⟨rfl, rfl, rfl⟩ := h
      obtain ⟨v, ev, Rv⟩ : tVar i σ H (fun v H' => Rel K W P₀ H₀ σ st0 (v :: τ) (x :: ts) H' g1) := ev_var i _ _ _ _ _ _ _ _ _ _ _ _ R e3 fun v H' r => r
      obtain ⟨P, O, Rv⟩ := Rv
      obtain ⟨P, O, Rv⟩ := Rv.takeV e4
      have c : Rep K W P (.dct kvs) v := Rv.temps.1
      simp only [Rep] at c
      obtain ⟨d, o, kk, rfl, eP, ⟨ks, hk, rfl⟩, rp⟩ := c
      have R1 := Rv.pop
      have hlen := repk_len rp
      rw [List.length_map] at hlen
      rw [keys_rep rp] at e2
      rcases hk with rfl | ⟨od, rfl⟩
      · right
        refine ⟨d, .dK ks, R1.sub _ _ eP, trivial, fun od => ?_⟩
        have RL := R1.lock (od := od) eP
        refine ⟨.ref d, ev, d, od, rfl, .inl ⟨ks, upd_same, fun D0 h0 => ?_⟩⟩
        refine lc_run0 (cv := []) (cells := []) (τ := τ) (ts := ts) (fun h => by cases h) (yields_keys (P₀ := upd P d (.frz od (.dK ks))) (H₀ := lockM d (.frz od (.dK ks)) H₀) upd_same (by omega)) hg ht he hv h0 ⟨_, _, RL⟩ e2 fun H' R' => ?_
        obtain ⟨P', O', R'⟩ := R'
        obtain ⟨u1, u2⟩ := R1.unlock eP R'
        exact ⟨u1, q _ _ ⟨_, _, u2⟩⟩
      · left
        refine ⟨.ref d, ev, d, od, rfl, .inl ⟨ks, R1.sub _ _ eP, fun D0 h0 => ?_⟩⟩
        refine lc_run0 (cv := []) (cells := []) (τ := τ) (ts := ts) (fun h => by cases h) (yields_keys (P₀ := P) (H₀ := H₀) eP (by omega)) hg ht he hv h0 ⟨_, _, R1.self⟩ e2 fun H' R' => ?_
        obtain ⟨P', O', R'⟩ := R'
        exact q _ _ ⟨_, _, R1.rebase R'⟩
    · cases h
  | _ => cases h
end DL
namespace DL
open PySem PySem.Spec PyProof.Rows L2
variable {G : Type}
def isDSlot (i : Nat) (st : Sl) : Bool := match st[i]? with
  | some (some (.sh (.dct _))) => true
  | some (some (.ow (.dct _))) => true
  | _ => false
def mLcV (i : Nat) (p : Pt) (vs : List Nat) (test : M G Bool) (elt : M G S) : M G S := fun st g => if isDSlot i st = true then mLcK i p vs test elt st g else mLc (srcSeq (mVar i)) p vs test elt st g
theorem ev_or {K : PySem.W.Frag} {W : Wd G} {t1 t2 : TE} {f1 f2 : M G S} {c : Sl → Bool} (h1 : EvE K W t1 f1) (h2 : EvE K W t2 f2) : EvE K W (fun σ H Q => t1 σ H Q ∨ t2 σ H Q) (fun st g => if c st = true then f2 st g else f1 st g) := by
  intro P₀ H₀ σ st τ ts H g r st' g' Q R h q
  simp only at h
  split at h
  · exact .inr (h2 _ _ _ _ _ _ _ _ _ _ _ _ R h q)
  · exact .inl (h1 _ _ _ _ _ _ _ _ _ _ _ _ R h q)
section
variable {C : CF} {Fam : Wd G → Prop} {tg elt : Expr} {ifs : List Expr} {scope : Scope} {pos px : Pos} {x : Str}
theorem d_lcV {p : Pt} {test : M G Bool} {f : M G S} (i : Nat) (own : List (Str × Nat)) (hg : DG (C.blk scope) tg p) (ht : DTs (C.blk scope) Fam ifs test) (he : DE (C.blk scope) Fam elt f)
    (hN : C.N[i]? = some x := by rfl) (hvis : ∀ j, Vis (C.X j).env.scope x := by intro _; first | exact Or.inl rfl | exact Or.inr (Or.inl rfl) | exact Or.inr (Or.inr rfl)) (hd : (x == ("__debug__" : Str)) = false := by decide) (hcd : (x == ("__classdict__" : Str)) = false := by decide)
    (ok : ∀ j, blkC C.N (C.X j).env.scope scope own = true := by intro _; decide +kernel) (hv : ∀ i ∈ p.ix, i ∈ own.map (·.2) := by decide) (hs : ∀ j y, foldedSetIterable (.Name x px) (C.X j).env y = pure y := by intro _ _; rfl) :
    DE C Fam (.ListComp elt [⟨tg, .Name x px, ifs, 0⟩] scope pos) (mLcV i p (own.map (·.2)) test f) := by
  have hvar : DE C Fam (.Name x px) (mVar i) := ⟨tVar i, fun j => pe_var (i := i) (by rw [C.hN j]; exact hN) (hvis j) hd hcd, fun W hW => ev_var i⟩
  obtain ⟨t1, p1, ev1⟩ := (d_lc (C := C) (Fam := Fam) (A := false) (pos := pos) own (i_seq (tg := tg) hvar) hg ht he ok hv (fun h => by cases h) hs).ex
  obtain ⟨ta, pa, ea⟩ := hg.ex
  obtain ⟨tt, pt, et⟩ := ht.ex
  obtain ⟨te, pe, ee⟩ := he.ex
  have key : ∀ j, PE (C.X j) (.ListComp elt [⟨tg, .Name x px, ifs, 0⟩] scope pos) (tLc (iKeys (tVar i)) ta tt te (own.map (·.2))) := fun j =>
    pe_lc (own := own) (C.calm j) (C.nd' j) (pi_keys (pe_var (i := i) (by rw [C.hN j]; exact hN) (hvis j) hd hcd)) (by rw [C.hN j]; exact blkOk_by (ok j)) (fun s H Ca cl fp => pa (j, s, H, Ca, cl, fp)) (fun s H Ca cl fp => pt (j, s, H, Ca, cl, fp)) (fun s H Ca cl fp => pe (j, s, H, Ca, cl, fp)) (hs j)
  exact ⟨_, fun j => PE.or (p1 j) (PE.or (key j) (pe_lock (key j))), fun W hW => ev_or (c := isDSlot i) (ev1 W hW) (ev_lcK (ea G W) (et W hW) (ee W hW) hv)⟩
end
end DL
namespace DL
open PySem PySem.Spec PyProof.Rows L2
variable {G : Type}
/-- a, b = a list -/
def mUnpL (ps : List Pt) (f : M G S) : M G Fl := fun st g => bnd (mTake f st g) fun d st g => match d with
  | .lst ds => (asgs ps ds st).map fun st => (.nx, st, g)
  | _ => none
end DL
namespace DL
open PySem PySem.Spec PyProof.Rows L2
variable {G : Type}
/-! ### for p in x: x a name that holds a dict -/
theorem PS.or {X : Cx} {s : Stmt} {t t' : TS} (h : PS X s t) (h' : PS X s t') : PS X s (fun D σ H => t D σ H ∨ t' D σ H) := ⟨fun pins s σ H D I q => q.elim (h.run pins s σ H D I) (h'.run pins s σ H D I)⟩
end DL
/-! dict(zip(a, b)) of two tuples. -/
namespace DX
open PySem PySem.Spec PyProof.Rows L2
section
variable {prog : Program} {w : World} {A : Around} {E : Value → Shared → Prop} {s : Shared} {zz ti tO ia ib ta tb : Addr}
/-- the next pair while an earlier one, at T, is still out -/
theorem zipT_held_item {T : Addr} {fl : Bool} {ot : Obj} {ka kb : Nat} {xs ys : Array Value} {x y : Value} {Q : Value → Shared → Prop} (D : ZipApart zz ti tO ia ib ta tb)
    (hZ : IsZipHeld s.heap zz ti tO T fl) (hO : s.heap.get? T = some ot) (hP : IsPair s.heap ti (.ref ia) (.ref ib))
    (jA : s.heap.IsTupleIter ia ta ka) (jB : s.heap.IsTupleIter ib tb kb) (lA : s.heap.IsTuple ta xs) (lB : s.heap.IsTuple tb ys) (eX : xs[ka]? = some x) (eY : ys[kb]? = some y)
    (go : ∀ hp, IsZipHeld hp zz ti tO T true → hp.IsTupleIter ia ta (ka + 1) → hp.IsTupleIter ib tb (kb + 1) → IsPair hp s.heap.objs.size x y →
      (∀ c o, c ≠ zz → c ≠ ia → c ≠ ib → s.heap.get? c = some o → hp.get? c = some o) → Q (.ref s.heap.objs.size) { s with heap := hp }) :
    wpAny (model prog w) A (Builtin.«zip.__next__» ⟨[.ref zz], []⟩) (fun fin s' => ∃ v, fin = .done (.ret v) ∧ Q v s') E s := by
  show wpAny _ _ (field (.ref zz) 2 >>= _) _ _ s
  refine wpAny_bind (wpAny_field hZ rfl (x := .bool false) rfl ?_)
  show wpAny _ _ (field (.ref zz) 3 >>= _) _ _ s
  refine wpAny_bind (wpAny_field hZ rfl (x := .ref ti) rfl ?_)
  refine wpAny_bind (wpAny_seqItems hP rfl ?_)
  show wpAny _ _ (Builtin.SmallTypes.ownedTupleIsFree (.ref zz) >>= _) _ _ s
  refine wpAny_bind (wpAny_tupleHeld_zip hZ hO fun ha zA sA => ?_)
  simp only [Bool.false_eq_true, if_false]
  refine wpAny_bind ?_
  rw [← Array.forIn_toList]
  simp only [List.forIn_cons, List.forIn_nil]
  refine wpAny_bind (wpAny_bind (wpAny_holding ?_))
  show wpAny _ _ (Builtin.SmallTypes.nextOf (.ref ia) >>= _) _ _ _
  refine wpAny_bind (RZ.nextOf_tuple_item (s := { s with heap := ha }) (jA.at fun o e => sA.extBut _ o D.i1z e) (lA.at fun o e => sA.extBut _ o D.l1z e) eX fun hb jA2 sB => wpAny_pure ?_)
  refine wpAny_pure ?_
  refine wpAny_bind (wpAny_bind (wpAny_holding ?_))
  show wpAny _ _ (Builtin.SmallTypes.nextOf (.ref ib) >>= _) _ _ _
  refine wpAny_bind (RZ.nextOf_tuple_item (s := { s with heap := hb }) (jB.at fun o e => sB.extBut _ o D.i12.symm (sA.extBut _ o D.i2z e)) (lB.at fun o e => sB.extBut _ o D.l2i1 (sA.extBut _ o D.l2z e)) eY fun hc jB2 sC => wpAny_pure ?_)
  refine wpAny_pure (wpAny_pure ?_)
  show wpAny _ _ (newTuple [x, y] >>= _) _ _ { s with heap := hc }
  refine wpAny_bind (wpAny_newTuple ?_)
  have nz : hc.objs.size = s.heap.objs.size := by rw [sC.1, sB.1, sA.1]
  have zC : IsZipHeld hc zz ti tO T true := sC.extBut _ _ D.i2z.symm (sB.extBut _ _ D.i1z.symm zA)
  have kC : ∀ c o, c ≠ zz → c ≠ ia → c ≠ ib → s.heap.get? c = some o → hc.get? c = some o := fun c o n1 n2 n3 e => sC.extBut _ _ n3 (sB.extBut _ _ n2 (sA.extBut _ _ n1 e))
  have jA3 : hc.IsTupleIter ia ta (ka + 1) := jA2.at fun o e => sC.extBut _ o D.i12 e
  refine wpAny_pure ⟨_, rfl, ?_⟩
  have pN : IsPair (hc.push { cls := .type "tuple", data := .seq #[x, y] }) hc.objs.size x y := Heap.get?_push_size _ rfl
  have rz : Value.ref hc.objs.size = .ref s.heap.objs.size := by rw [nz]
  rw [nz] at pN
  show Q (.ref hc.objs.size) _
  rw [rz]
  exact go _ (Heap.get?_push_of_some _ zC) (jA3.at fun o e => Heap.get?_push_of_some _ e) (jB2.at fun o e => Heap.get?_push_of_some _ e) pN fun c o n1 n2 n3 e => Heap.get?_push_of_some _ (kC c o n1 n2 n3 e)
theorem zipT_held_end {T : Addr} {fl : Bool} {ot : Obj} {ka kb : Nat} {xs ys : Array Value} {Q : Fin → Shared → Prop} (hh : A.handled = none) (D : ZipApart zz ti tO ia ib ta tb)
    (hZ : IsZipHeld s.heap zz ti tO T fl) (hO : s.heap.get? T = some ot) (hP : IsPair s.heap ti (.ref ia) (.ref ib))
    (jA : s.heap.IsTupleIter ia ta ka) (jB : s.heap.IsTupleIter ib tb kb) (lA : s.heap.IsTuple ta xs) (lB : s.heap.IsTuple tb ys) (no : xs[ka]? = none ∨ ys[kb]? = none)
    (go : ∀ hp e, (∀ c o, c ≠ zz → c ≠ ia → c ≠ ib → s.heap.get? c = some o → hp.get? c = some o) → (∃ o, hp.get? e = some o ∧ o.cls = .type "StopIteration") → E (.ref e) { s with heap := hp }) :
    wpAny (model prog w) A (Builtin.«zip.__next__» ⟨[.ref zz], []⟩) Q E s := by
  show wpAny _ _ (field (.ref zz) 2 >>= _) _ _ s
  refine wpAny_bind (wpAny_field hZ rfl (x := .bool false) rfl ?_)
  show wpAny _ _ (field (.ref zz) 3 >>= _) _ _ s
  refine wpAny_bind (wpAny_field hZ rfl (x := .ref ti) rfl ?_)
  refine wpAny_bind (wpAny_seqItems hP rfl ?_)
  show wpAny _ _ (Builtin.SmallTypes.ownedTupleIsFree (.ref zz) >>= _) _ _ s
  refine wpAny_bind (wpAny_tupleHeld_zip hZ hO fun ha zA sA => ?_)
  simp only [Bool.false_eq_true, if_false]
  refine wpAny_bind ?_
  rw [← Array.forIn_toList]
  simp only [List.forIn_cons, List.forIn_nil]
  refine wpAny_bind (wpAny_bind (wpAny_holding ?_))
  show wpAny _ _ (Builtin.SmallTypes.nextOf (.ref ia) >>= _) _ _ { s with heap := ha }
  have jA1 : ha.IsTupleIter ia ta ka := jA.at fun o e => sA.extBut _ o D.i1z e
  have lA1 : ha.IsTuple ta xs := lA.at fun o e => sA.extBut _ o D.l1z e
  cases eX : xs[ka]? with
  | none => exact wpAny_bind (RZ.nextOf_tuple_end (s := { s with heap := ha }) hh jA1 lA1 eX fun hb e sB he => go hb e (fun c o n1 n2 _ q => sB _ _ n2 (sA.extBut _ _ n1 q)) he)
  | some x =>
    have eY : ys[kb]? = none := by rcases no with q | q; rw [eX] at q; cases q; exact q
    refine wpAny_bind (RZ.nextOf_tuple_item (s := { s with heap := ha }) jA1 lA1 eX fun hb jA2 sB => wpAny_pure ?_)
    refine wpAny_pure ?_
    refine wpAny_bind (wpAny_bind (wpAny_holding ?_))
    show wpAny _ _ (Builtin.SmallTypes.nextOf (.ref ib) >>= _) _ _ { s with heap := hb }
    exact wpAny_bind (RZ.nextOf_tuple_end (s := { s with heap := hb }) hh (jB.at fun o e => sB.extBut _ o D.i12.symm (sA.extBut _ o D.i2z e)) (lB.at fun o e => sB.extBut _ o D.l2i1 (sA.extBut _ o D.l2z e)) eY fun hc e sC he => go hc e (fun c o n1 n2 n3 q => sC _ _ n3 (sB.extBut _ _ n2 (sA.extBut _ _ n1 q))) he)
theorem next_held_item {T : Addr} {fl : Bool} {ot : Obj} {ka kb : Nat} {xs ys : Array Value} {x y : Value} {Q : Option Value → Shared → Prop} (D : ZipApart zz ti tO ia ib ta tb)
    (hZ : IsZipHeld s.heap zz ti tO T fl) (hO : s.heap.get? T = some ot) (hP : IsPair s.heap ti (.ref ia) (.ref ib))
    (jA : s.heap.IsTupleIter ia ta ka) (jB : s.heap.IsTupleIter ib tb kb) (lA : s.heap.IsTuple ta xs) (lB : s.heap.IsTuple tb ys) (eX : xs[ka]? = some x) (eY : ys[kb]? = some y)
    (go : ∀ hp, IsZipHeld hp zz ti tO T true → hp.IsTupleIter ia ta (ka + 1) → hp.IsTupleIter ib tb (kb + 1) → IsPair hp s.heap.objs.size x y →
      (∀ c o, c ≠ zz → c ≠ ia → c ≠ ib → s.heap.get? c = some o → hp.get? c = some o) → Q (some (.ref s.heap.objs.size)) { s with heap := hp }) :
    wpAny (model prog w) A (pyNext (.ref zz)) Q E s := by
  have ty : s.TypeIs (.ref zz) "zip" := ⟨_, hZ, rfl⟩
  unfold pyNext; exact wpAny_bind (wpAny_attempt (wpAny_callSpecial?_slot (name := Str.ofString "__next__") ty F.slot_zip_next
    (wpAny_call_entry F.slot_zip_next ty F.entry_zip_next (zipT_held_item D hZ hO hP jA jB lA lB eX eY fun hp a1 a3 a4 a5 a7 => wpAny_pure (go hp a1 a3 a4 a5 a7)) (F.args_zip_next_1 _))))
theorem next_held_end {T : Addr} {fl : Bool} {ot : Obj} {ka kb : Nat} {xs ys : Array Value} {Q : Option Value → Shared → Prop} (hh : A.handled = none) (D : ZipApart zz ti tO ia ib ta tb)
    (hZ : IsZipHeld s.heap zz ti tO T fl) (hO : s.heap.get? T = some ot) (hP : IsPair s.heap ti (.ref ia) (.ref ib))
    (jA : s.heap.IsTupleIter ia ta ka) (jB : s.heap.IsTupleIter ib tb kb) (lA : s.heap.IsTuple ta xs) (lB : s.heap.IsTuple tb ys) (no : xs[ka]? = none ∨ ys[kb]? = none)
    (go : ∀ hp, (∀ c o, c ≠ zz → c ≠ ia → c ≠ ib → s.heap.get? c = some o → hp.get? c = some o) → Q none { s with heap := hp }) : wpAny (model prog w) A (pyNext (.ref zz)) Q E s := by
  have ty : s.TypeIs (.ref zz) "zip" := ⟨_, hZ, rfl⟩
  unfold pyNext; refine wpAny_bind (wpAny_attempt (wpAny_callSpecial?_slot (name := Str.ofString "__next__") ty F.slot_zip_next
    (wpAny_call_entry F.slot_zip_next ty F.entry_zip_next (zipT_held_end hh D hZ hO hP jA jB lA lB no fun hp e kk he => ?_) (F.args_zip_next_1 _))))
  obtain ⟨o, ho, hc⟩ := he
  exact wpAny_bind (wpAny_isInstance (T := "StopIteration") (b := true) ⟨o, ho, hc⟩ isSubtype_stop (wpAny_pure (go _ kk)))
end
/-- what the zip of two tuples is, fresh -/
def ZipT (zz ti tO ia ib ta tb : Addr) (xs ys : Array Value) (h : Heap) : Prop :=
  IsZip h zz ti tO .none ∧ IsPair h ti (.ref ia) (.ref ib) ∧ (∃ a b, IsPair h tO a b) ∧ h.IsTupleIter ia ta 0 ∧ h.IsTupleIter ib tb 0 ∧ h.IsTuple ta xs ∧ h.IsTuple tb ys
/-- how it stands behind i pairs, while the dict at d is filled -/
def ZipS (zz ti tO ia ib ta tb d : Addr) (xs ys : Array Value) (i : Nat) (h : Heap) : Prop :=
  IsPair h ti (.ref ia) (.ref ib) ∧ h.IsTupleIter ia ta i ∧ h.IsTupleIter ib tb i ∧ h.IsTuple ta xs ∧ h.IsTuple tb ys ∧
    ((IsZip h zz ti tO .none ∧ ∃ a b, IsPair h tO a b) ∨ ∃ T fl ot, IsZipHeld h zz ti tO T fl ∧ h.get? T = some ot ∧ T ≠ zz ∧ T ≠ ia ∧ T ≠ ib ∧ T ≠ d)
theorem zipS_src {prog : Program} {w : World} {A : Around} {zz ti tO ia ib ta tb d : Addr} (D : ZipApart zz ti tO ia ib ta tb) (xs ys : Array Value) (hA : A.handled = none)
    (dz : d ≠ zz) (dti : d ≠ ti) (dtO : d ≠ tO) (dia : d ≠ ia) (dib : d ≠ ib) (dta : d ≠ ta) (dtb : d ≠ tb) :
    PairSrc prog w A zz d [zz, tO, ia, ib] (min xs.size ys.size) (fun i k v => xs[i]? = some k ∧ ys[i]? = some v) (ZipS zz ti tO ia ib ta tb d xs ys) where
  off := by simp [dz, dtO, dia, dib]
  frame i h1 h2 st kk := by
    obtain ⟨p, a, b, c, e, z⟩ := st
    refine ⟨kk _ _ (Ne.symm dti) p, a.at fun o q => kk _ o (Ne.symm dia) q, b.at fun o q => kk _ o (Ne.symm dib) q, c.at fun o q => kk _ o (Ne.symm dta) q, e.at fun o q => kk _ o (Ne.symm dtb) q, ?_⟩
    rcases z with ⟨z, u, v, t⟩ | ⟨T, fl, ot, z, t, r1, r2, r3, r4⟩
    · exact .inl ⟨kk _ _ (Ne.symm dz) z, u, v, kk _ _ (Ne.symm dtO) t⟩
    · exact .inr ⟨T, fl, ot, kk _ _ (Ne.symm dz) z, kk _ _ r4 t, r1, r2, r3, r4⟩
  item i s Q E hi st hd go := by
    obtain ⟨p, a, b, c, e, z⟩ := st
    have eX := Array.getElem?_eq_getElem (Nat.lt_of_lt_of_le hi (Nat.min_le_left xs.size ys.size))
    have eY := Array.getElem?_eq_getElem (Nat.lt_of_lt_of_le hi (Nat.min_le_right xs.size ys.size))
    have lt : ∀ {c o}, s.heap.get? c = some o → s.heap.objs.size ≠ c := fun q => Nat.ne_of_gt (Heap.lt_size q)
    have n1 : s.heap.objs.size ≠ ia := let ⟨_, q, _⟩ := a; lt q
    have n2 : s.heap.objs.size ≠ ib := let ⟨_, q, _⟩ := b; lt q
    rcases z with ⟨z, u, v, t⟩ | ⟨T, fl, ot, z, t, r1, r2, r3, r4⟩
    · refine RZ.pyNext_zipT_item D z p t a b c e eX eY fun hp a1 a2 a3 a4 a5 a6 kk => ?_
      exact go s.heap.objs.size _ _ hp s.toks ⟨eX, eY⟩ (.inl ⟨_, a5, rfl, _, rfl⟩)
        ⟨kk _ _ D.TIz D.TITO D.TIi1 D.TIi2 p, a3, a4, c.at fun o q => kk _ o D.l1z D.l1TO D.l1i1 D.l1i2 q, e.at fun o q => kk _ o D.l2z D.l2TO D.l2i1 D.l2i2 q, .inr ⟨s.heap.objs.size, false, _, a1, a5, lt z, n1, n2, Nat.ne_of_gt hd⟩⟩
        fun c o nc q => by simp only [List.mem_cons, List.not_mem_nil, or_false, not_or] at nc; exact kk c o nc.1 nc.2.1 nc.2.2.1 nc.2.2.2 q
    · refine next_held_item D z t p a b c e eX eY fun hp a1 a3 a4 a5 kk => ?_
      exact go s.heap.objs.size _ _ hp s.toks ⟨eX, eY⟩ (.inl ⟨_, a5, rfl, _, rfl⟩)
        ⟨kk _ _ D.TIz D.TIi1 D.TIi2 p, a3, a4, c.at fun o q => kk _ o D.l1z D.l1i1 D.l1i2 q, e.at fun o q => kk _ o D.l2z D.l2i1 D.l2i2 q, .inr ⟨T, true, ot, a1, kk _ _ r1 r2 r3 t, r1, r2, r3, r4⟩⟩
        fun c o nc q => by simp only [List.mem_cons, List.not_mem_nil, or_false, not_or] at nc; exact kk c o nc.1 nc.2.2.1 nc.2.2.2 q
  done s Q E st go := by
    obtain ⟨p, a, b, c, e, z⟩ := st
    have no : xs[min xs.size ys.size]? = none ∨ ys[min xs.size ys.size]? = none := by
      rcases Nat.le_total xs.size ys.size with q | q
      · exact .inl (Array.getElem?_eq_none (by omega))
      · exact .inr (Array.getElem?_eq_none (by omega))
    rcases z with ⟨z, u, v, t⟩ | ⟨T, fl, ot, z, t, r1, r2, r3, r4⟩
    · exact RZ.pyNext_zipT_end hA D z p t a b c e no fun hp kk => go hp s.toks fun c o nc q => by simp only [List.mem_cons, List.not_mem_nil, or_false, not_or] at nc; exact kk c o nc.1 nc.2.1 nc.2.2.1 nc.2.2.2 q
    · exact next_held_end hA D z t p a b c e no fun hp kk => go hp s.toks fun c o nc q => by simp only [List.mem_cons, List.not_mem_nil, or_false, not_or] at nc; exact kk c o nc.1 nc.2.2.1 nc.2.2.2 q
theorem zipT_arg {prog : Program} {w : World} {zz ti tO ia ib ta tb : Addr} (D : ZipApart zz ti tO ia ib ta tb) (xs ys : Array Value) :
    PairArg prog w "zip" zz [zz, ti, tO, ia, ib, ta, tb] [zz, tO, ia, ib] (min xs.size ys.size) (fun i k v => xs[i]? = some k ∧ ys[i]? = some v) (ZipT zz ti tO ia ib ta tb xs ys) where
  type s ok := ⟨_, ok.1, rfl⟩
  notDict := by decide
  keep h h' ok kk := by
    obtain ⟨z, p, ⟨u, v, t⟩, a, b, c, e⟩ := ok
    exact ⟨kk _ _ z, kk _ _ p, ⟨u, v, kk _ _ t⟩, a.at fun o q => kk _ o q, b.at fun o q => kk _ o q, c.at fun o q => kk _ o q, e.at fun o q => kk _ o q⟩
  there h ok b hb := by
    obtain ⟨z, p, ⟨u, v, t⟩, ⟨o1, q1, _⟩, ⟨o2, q2, _⟩, ⟨o3, q3, _⟩, ⟨o4, q4, _⟩⟩ := ok
    simp only [List.mem_cons, List.not_mem_nil, or_false] at hb
    rcases hb with rfl | rfl | rfl | rfl | rfl | rfl | rfl
    · exact ⟨_, z⟩
    · exact ⟨_, p⟩
    · exact ⟨_, t⟩
    · exact ⟨_, q1⟩
    · exact ⟨_, q2⟩
    · exact ⟨_, q3⟩
    · exact ⟨_, q4⟩
  sub b hb := by
    simp only [List.mem_cons, List.not_mem_nil, or_false] at hb ⊢
    rcases hb with rfl | rfl | rfl | rfl <;> simp
  noKeys A s Q E hA ok h := getAttrOr_miss_zip ok.1 rfl rfl rfl zip_no_keys (by decide +kernel) hA h
  iter A s d Q E hA ok hd hdf go := by
    obtain ⟨z, p, ⟨u, v, t⟩, a, b, c, e⟩ := ok
    simp only [List.mem_cons, List.not_mem_nil, or_false, not_or] at hdf
    obtain ⟨d1, d2, d3, d4, d5, d6, d7⟩ := hdf
    exact wpAny_pyIter_zip z (go zz [zz, tO, ia, ib] _ s.heap s.toks (zipS_src D xs ys hA d1 d2 d3 d4 d5 d6 d7) ⟨p, a, b, c, e, .inl ⟨z, u, v, t⟩⟩ (fun _ _ q => q) fun b hb => .inl hb)
end DX
namespace DX
open PySem PySem.Spec PyProof.Rows L2
/-- dict(zip(a, b)): a tuple of keys, a tuple of values -/
def tDictZip (K : PySem.W.Frag) (ta : TA) : TE := fun σ H Q => ta σ H fun vs H1 => ∃ (a b : Addr) (ks : List Key) (ys : List V), vs = [.ref a, .ref b] ∧ SqT K H1 a (ks.map kV) ∧ SqT K H1 b ys ∧ ∀ p, H1 p = none → Q (.ref p) (upd H1 p (.dK (mergeK [] (ks.zip ys))))
theorem kv_zip : ∀ (ks : List Key) {ys : List V} {us : List Value}, Vals ys us → KV (ks.zip ys) (ks.zip us)
  | [], _, _, _ => by simp only [List.zip_nil_left]; exact .nil
  | _ :: _, _, _, .nil => by simp only [List.zip_nil_right]; exact .nil
  | k :: ks, _, _, .cons r rs => by simp only [List.zip_cons_cons]; exact .cons ⟨rfl, r⟩ (kv_zip ks rs)
variable {X : Cx}
theorem pe_dictZip {e e2 : Expr} {ta : TA} {p q pos pos2 : Pos} (hcalm : X.calm = true) (ha : PA X [e, e2] ta) (hg : Gl X "dict") (hm : X.mg "dict" = none) (hgz : Gl X "zip") (hmz : X.mg "zip" = none)
    (hs : starEach [.Call (.Name "zip" q) [e, e2] [] pos2] X.env = (false, eval (.Call (.Name "zip" q) [e, e2] [] pos2) X.env) :: starEach [] X.env := by rfl)
    (hs2 : starEach [e, e2] X.env = (false, eval e X.env) :: starEach [e2] X.env := by rfl) (hpl : (backTo pos2 (starEach [e2] X.env)).any (·.1) = false := by rfl) :
    PE X (.Call (.Name "dict" p) [.Call (.Name "zip" q) [e, e2] [] pos2] [] pos) (tDictZip X.K ta) := by
  refine ⟨fun pins s σ H Q I h => ?_⟩
  refine Call_ (ld_blt I hg hm PyProof.Rows.boot_dict (PyProof.Rows.callWith_type1 ?_ hs rfl))
  refine args_cons ?_ hs
  refine Call_ (ld_blt I hgz hmz PyProof.Rows.boot_zip (PyProof.Rows.callWith_type1 (thn (ha.run pos2 pins s σ H _ I h) fun us s1 ⟨vs, H1, I1, r1, q1⟩ => ?_) hs2 hpl))
  obtain ⟨a, b, ks, ys, ex, hqx, hqy, q1⟩ := q1
  subst ex
  cases r1 with
  | cons r rr =>
    cases rr with
    | cons r' rr =>
      cases rr
      cases r
      cases r'
      obtain ⟨its, rv, p1, z1⟩ := I1.tuple hqx
      obtain ⟨its2, rv2, p2, z2⟩ := I1.tuple hqy
      obtain ⟨o1, ho1, _⟩ := id p1
      obtain ⟨o2, ho2, _⟩ := id p2
      refine RZ.call_zipT (show s1.heap.IsTuple a its.toArray from p1) (show s1.heap.IsTuple b its2.toArray from p2) fun h' hz hTI hTO h1 h2 hsz hk => ?_
      refine args_nil ?_
      have D := PySem.W.ktu_apart s1.heap.objs.size a b (Heap.lt_size ho1) (Heap.lt_size ho2)
      have l1 := rv.length
      have l2 := rv2.length
      rw [List.length_map] at l1
      have zl : (ks.zip its2).length = min its.toArray.size its2.toArray.size := by rw [List.length_zip]; simp [l1]
      refine PySem.call_dict_pairs (knd := mixKind X.prog X.w) (kvs := ks.zip its2) (zipT_arg D its.toArray its2.toArray) (I1.ok.hd hcalm) (s := { s1 with heap := h' }) ⟨hz, hTI, ⟨_, _, hTO⟩, h1, h2, (show s1.heap.IsTuple a its.toArray from p1).at fun o e => hk _ o e, (show s1.heap.IsTuple b its2.toArray from p2).at fun o e => hk _ o e⟩ ⟨zl, fun i key v e => ?_⟩ ?_ fun h'' tk hd' kk => ?_
      · obtain ⟨e1, e2⟩ := e
        have e1 : its[i]? = some key := by simpa using e1
        have e2 : its2[i]? = some v := by simpa using e2
        have hi : i < ks.length := by have := (List.getElem?_eq_some_iff.mp e1).1; omega
        have ek : ks[i]? = some ks[i] := List.getElem?_eq_getElem hi
        obtain ⟨u, eu, ru⟩ := rv.get (show (ks.map kV)[i]? = some (kV ks[i]) by rw [List.getElem?_map, ek]; rfl)
        rw [e1] at eu; cases eu
        exact ⟨ks[i], by rw [List.getElem?_zip_eq_some]; exact ⟨ek, e2⟩, kV_is ru⟩
      · rw [← zl, List.length_zip]
        exact Nat.le_trans (Nat.min_le_right _ _) (by rw [← l2]; exact z2)
      · have kv := kv_zip ks rv2
        have few : (mergeK [] (ks.zip ys)).length ≤ sizeLine := by
          have g1 := length_mergeK (ks.zip ys) []
          have g2 : (ks.zip ys).length ≤ ys.length := by rw [List.length_zip]; exact Nat.min_le_right _ _
          simp only [List.length_nil] at g1
          omega
        have hle : s1.heap.objs.size ≤ h'.objs.size := by omega
        have big : (h'.objs.size == sysModules) = false := beq_eq_false_iff_ne.mpr (Nat.ne_of_gt (Nat.lt_of_lt_of_le I1.big hle))
        refine ⟨.ref h'.objs.size, _, I1.laid (t' := tk) (a := h'.objs.size) (fun b o e => kk b o (fun hb => ?_) (hk b o e)) hle (show ObjOk X.prog X.w _ _ _ (.dK (mergeK [] (ks.zip ys))) from ⟨few, big, merged [] (ks.zip its2), KV.merge kv .nil, hd'⟩), rfl, q1 _ (I1.hok.fresh hle)⟩
        have hb' : b = s1.heap.objs.size + 4 ∨ b = s1.heap.objs.size + 3 ∨ b = s1.heap.objs.size ∨ b = s1.heap.objs.size + 1 := by simpa using hb
        have hl := Heap.lt_size e
        rcases hb' with z | z | z | z
        · rw [z] at hl; exact absurd hl (Nat.not_lt.mpr (Nat.le_add_right _ _))
        · rw [z] at hl; exact absurd hl (Nat.not_lt.mpr (Nat.le_add_right _ _))
        · rw [z] at hl; exact absurd hl (Nat.lt_irrefl _)
        · rw [z] at hl; exact absurd hl (Nat.not_lt.mpr (Nat.le_add_right _ _))
end DX
namespace DL
open PySem PySem.Spec PyProof.Rows L2
variable {G : Type}
/-! ### dict(zip(a, b)), two tuples -/
def keyLs : List D → Option (List Key)
  | [] => some []
  | d :: ds => match keyD d with
    | some k => (keyLs ds).map (k :: ·)
    | none => none
theorem keyLs_eq : ∀ {ds : List D} {ks : List Key}, keyLs ds = some ks → ds = ks.map kD
  | [], ks, h => by simp only [keyLs, Option.some.injEq] at h; subst h; rfl
  | d :: ds, ks, h => by
    simp only [keyLs] at h
    cases hk : keyD d with
    | none => rw [hk] at h; cases h
    | some k =>
      rw [hk] at h
      obtain ⟨r, e, rfl⟩ := Option.map_eq_some_iff.mp h
      rw [kD_of hk, keyLs_eq e]; rfl
def mDictZip (fa : M G (List D)) : M G S := fun st g => bnd (fa st g) fun ds st g => match ds with
  | [.tup xs, .tup ys] => if (keyLs xs).isSome = true then some (.ow (.dct (mergeD (xs.zip ys))), st, g) else none
  | _ => none
theorem reps_kV {K : PySem.W.Frag} {W : Wd G} {P : Hp} : ∀ {ks : List Key} {vs : List V}, Reps K W P (ks.map kD) vs → vs = ks.map kV
  | [], vs, h => by simp only [List.map_nil, Reps] at h; exact h
  | k :: ks, vs, h => by
    simp only [List.map_cons, Reps] at h
    obtain ⟨v, r, rfl, h1, h2⟩ := h
    rw [rep_key (keyD_kD k) h1, reps_kV h2]; rfl
theorem zipK_rep {K : PySem.W.Frag} {W : Wd G} {P : Hp} : ∀ (ks : List Key) {ys : List D} {vs : List V}, Reps K W P ys vs → Repk K W P ((ks.map kD).zip ys) ((ks.zip vs).map fun p => (kD p.1, p.2))
  | [], _, _, _ => by simp [Repk]
  | k :: ks, [], vs, h => by simp only [Reps] at h; subst h; simp [Repk]
  | k :: ks, y :: ys, vs, h => by
    simp only [Reps] at h
    obtain ⟨v, r, rfl, h1, h2⟩ := h
    simp only [List.map_cons, List.zip_cons_cons, Repk]
    exact ⟨v, _, rfl, h1, zipK_rep ks h2⟩
section
variable {C : CF} {Fam : Wd G → Prop} {e e2 : Expr} {pos pos2 p q : Pos}
theorem d_dictZip {fa : M G (List D)} (hm : C.mg "dict" = none) (hmz : C.mg "zip" = none) (ha : DAs C Fam [e, e2] fa) (hg : ∀ j, Gl (C.X j) "dict" := by intro _; rfl) (hgz : ∀ j, Gl (C.X j) "zip" := by intro _; rfl)
    (hs : ∀ j, starEach [.Call (.Name "zip" q) [e, e2] [] pos2] (C.X j).env = (false, eval (.Call (.Name "zip" q) [e, e2] [] pos2) (C.X j).env) :: starEach [] (C.X j).env := by intro _; rfl)
    (hs2 : ∀ j, starEach [e, e2] (C.X j).env = (false, eval e (C.X j).env) :: starEach [e2] (C.X j).env := by intro _; rfl) (hpl : ∀ j, (backTo pos2 (starEach [e2] (C.X j).env)).any (·.1) = false := by intro _; rfl) :
    DE C Fam (.Call (.Name "dict" p) [.Call (.Name "zip" q) [e, e2] [] pos2] [] pos) (mDictZip fa) := by
  obtain ⟨ta, pa, ea⟩ := ha.ex
  refine ⟨DX.tDictZip C.K ta, fun j => by rw [← C.hK j]; exact DX.pe_dictZip (C.calm j) (pa j) (hg j) (by rw [C.hmg j]; exact hm) (hgz j) (by rw [C.hmg j]; exact hmz) (hs j) (hs2 j) (hpl j), fun W hW P₀ H₀ σ st τ ts H g r st' g' Q Rl h q => ?_⟩
  obtain ⟨ds, st1, g1, e1, h⟩ := bnd_eq h
  refine ea W hW _ _ _ _ _ _ _ _ _ _ _ _ Rl e1 fun vs H1 P O R1 rp => ?_
  have hl := ha.len _ _ _ _ _ e1
  match ds, hl with
  | [d1, d2], _ =>
    simp only [Reps] at rp
    obtain ⟨v1, _, rfl, r1, v2, _, rfl, r2, rfl⟩ := rp
    cases d1 with
    | tup xs =>
      cases d2 with
      | tup ys =>
        simp only at h
        split at h
        · rename_i hk
          simp only [Option.some.injEq, Prod.mk.injEq] at h; obtain ⟨rfl, rfl, rfl⟩ := h
          obtain ⟨ks, ek⟩ := Option.isSome_iff_exists.mp hk
          have ex := keyLs_eq ek
          subst ex
          simp only [Rep] at r1 r2
          obtain ⟨a, us, rfl, sq, hz, rpa⟩ := r1
          obtain ⟨b, ws, rfl, sq2, hz2, rpb⟩ := r2
          have eu := reps_kV rpa
          subst eu
          refine ⟨a, b, ks, ws, rfl, R1.sub.sqT sq.sq, R1.sub.sqT sq2.sq, fun p hp => ?_⟩
          obtain ⟨O', R2⟩ := R1.laidOwn (d := .dct (mergeD ((ks.map kD).zip ys))) hp ⟨_, ⟨_, rfl, rfl⟩, merge_rep (zipK_rep ks rpb) (acc := []) (ac := []) (by simp [Repk])⟩
          exact q _ _ ⟨P, O', R2⟩
        · cases h
      | _ => cases h
    | _ => cases h
end
end DL
namespace DL
open PySem PySem.Spec PyProof.Rows L2
variable {G : Type}
/-! ### x, d[k] = a, b -/
def mParD (i j : Nat) (fa fb fk : M G S) : M G Fl := fun st g => bnd (mTake fa st g) fun da st g => bnd (mTake fb st g) fun db st g => if i < st.length then mDPut j fk (mC db) (st.set i (some (.sh da))) g else none
end DL
namespace DX
open PySem PySem.Spec PyProof.Rows L2 DL
/-! ### dicts whose keys are nested tuples -/
/-- the tuple at b is the key k -/
def NKy (K : PySem.W.Frag) (H : Hp) (b : Addr) (k : NestedKey) : Prop := Dp K H (.ref b) k.data ∧ k.depth ≤ 8
/-- a dict at a with the entries xs; the empty dict is one -/
def NDt (w : World) (H : Hp) (a : Addr) (xs : List (NestedKey × Addr × Value)) : Prop := (∃ o, H a = some o ∧ IsDN w a o xs) ∨ (xs = [] ∧ Rd H a (.dK []))
/-- one that may be written -/
def NDm (w : World) (H : Hp) (a : Addr) (xs : List (NestedKey × Addr × Value)) : Prop := H a = some (nDictO w a xs) ∨ (xs = [] ∧ H a = some (.dK []))
theorem NDm.any {w : World} {H : Hp} {a : Addr} {xs : List (NestedKey × Addr × Value)} (h : NDm w H a xs) : NDt w H a xs := by
  rcases h with h | ⟨h, h2⟩
  · exact .inl ⟨_, h, .inl rfl⟩
  · exact .inr ⟨h, .inl h2⟩
section
variable {X : Cx} {pins : List (Addr × Obj)} {σ : L2.St} {H : Hp} {s : Shared} {a b : Addr} {k : NestedKey} {xs : List (NestedKey × Addr × Value)} {A : Around} {E : Value → Shared → Prop}
theorem NKy.is (I : Inv X pins σ H s) (h : NKy X.K H b k) : (nestedKind X.prog X.w).is s.heap k b := by
  obtain ⟨as, r⟩ := Dp.reads I _ _ (.ref b) h.1 rfl
  exact ⟨nested_of _ _ _ r, h.2⟩
theorem NDt.of (I : Inv X pins σ H s) (h : NDt X.w H a xs) (hk : ∀ x ∈ xs, NKy X.K H x.2.1 x.1) : (a == sysModules) = false ∧ xs.length ≤ sizeLine ∧ s.heap.DictOfH (nestedKind X.prog X.w) a xs := by
  rcases h with ⟨o, e, h⟩ | ⟨rfl, e⟩
  · have x := I.hok a o e
    have y : ObjOk X.prog X.w H s.heap a (nDictO X.w a xs) := by
      rcases h with rfl | ⟨ob, rfl⟩
      · exact x
      · exact x.2
    obtain ⟨⟨h1, h2, h3, o, es, ep, h4, h5, h6, h7⟩, _, _⟩ := y
    exact ⟨h1, h2, o, es, ep, h4, h5, h6, h7, fun x hx => (hk x hx).is I, h3⟩
  · obtain ⟨z, h1, vs, rel, dd⟩ := dk_rd I.hok e
    cases rel
    obtain ⟨o, es, ep, h4, h5, h6, h7, h8, _⟩ := dd
    refine ⟨h1, Nat.zero_le _, o, es, ep, h4, h5, h6, ?_, (fun x hx => nomatch hx), List.nodup_nil⟩
    cases h8' : es.toList with
    | nil => rfl
    | cons e es' => rw [h8'] at h8; cases h8
theorem nd_new {P : Program} {w : World} {H' : Hp} {h' : Heap} (hd : (a == sysModules) = false) (hl : xs.length ≤ sizeLine) (dd : h'.DictOfH (nestedKind P w) a xs) : ObjOk P w H' h' a (nDictO w a xs) := by
  obtain ⟨o, es, ep, h4, h5, h6, h7, _, h8⟩ := dd
  refine ⟨⟨hd, hl, h8, o, es, ep, h4, h5, h6, h7⟩, ⟨o, h4⟩, fun h1 h2 hp hk => ?_⟩
  obtain ⟨p1, p2, p3, o', es', ep', p4, p5, p6, p7⟩ := hp
  exact ⟨p1, p2, p3, o', es', ep', hk _ p4, p5, p6, p7⟩
theorem n_setItem {v : V} {r : Value} {Q : Unit → Shared → Prop} (hu : A.units + 20 < cLine) (I : Inv X pins σ H s) (hd : NDm X.w H a xs) (hk : ∀ x ∈ xs, NKy X.K H x.2.1 x.1) (hb : NKy X.K H b k) (hl : xs.length < sizeLine)
    (h : ∀ s', Inv X pins σ (upd H a (nDictO X.w a (storedH xs k b r))) s' → Q () s') : wpAny (model X.prog X.w) A (setItem (.ref a) (.ref b) r) Q E s := by
  obtain ⟨h1, h2, dd⟩ := hd.any.of I hk
  refine wpAny_setItem_heap (knd := nestedKind X.prog X.w) (hsz := h2) (show A.units + 1 + 8 < cLine by omega) (hb.is I) dd fun h' dd' hs => h _ ?_
  have he : ∃ q, h'.get? a = some q := let ⟨q, _, _, hq, _⟩ := dd'; ⟨q, hq⟩
  have hl' : (storedH xs k b r).length ≤ sizeLine := by have := storedH_length xs k b r; omega
  refine d_write I ?_ hs he (nd_new h1 hl' dd')
  rcases hd with e | ⟨_, e⟩
  · rw [e]; exact True.intro
  · rw [e]; exact True.intro
def sNPut (w : World) (K : PySem.W.Frag) (td ty tv : TE) : TS := fun D σ H => tv σ H fun v H1 => td σ H1 fun x H2 => ty σ H2 fun y H3 => ∃ a b xs k, x = .ref a ∧ y = .ref b ∧ NDm w H3 a xs ∧ (∀ x ∈ xs, NKy K H3 x.2.1 x.1) ∧ NKy K H3 b k ∧ xs.length < sizeLine ∧
  ∀ r, RelV v r → D.nx σ (upd H3 a (nDictO w a (storedH xs k b r)))
theorem ps_nput {o i value : Expr} {pos pos' : Pos} {td ty tv : TE} (hu : X.A.units + 20 < cLine) (ho : PE X o td) (hi : PE X i ty) (hv : PE X value tv) (hs : swapsWith value (some (.Subscript o i pos')) pos.line X.env = pure false) :
    PS X (.Assign [.Subscript o i pos'] value pos) (sNPut X.w X.K td ty tv) := by
  refine ⟨fun pins s σ H D I h => ?_⟩
  refine wpAny_Assign_Subscript (thn (hv.run pins s σ H _ I h) fun r s1 ⟨v, H1, I1, rv, q1⟩ => thn (ho.run pins s1 σ H1 _ I1 q1) fun u s2 ⟨x, H2, I2, rx, q2⟩ => thn (hi.run pins s2 σ H2 _ I2 q2) fun iv s3 ⟨y, H3, I3, ry, a, b, xs, k, ex, ey, g1, g2, g3, g4, q3⟩ => ?_) hs
  subst ex ey
  obtain rfl : u = Value.ref a := rx
  obtain rfl : iv = Value.ref b := ry
  exact n_setItem (v := v) hu I3 g1 g2 g3 g4 fun s4 I4 => ⟨σ, _, I4, q3 r rv⟩
end
end DX
namespace DL
open PySem PySem.Spec PyProof.Rows L2
variable {G : Type}
/-! ### dicts whose keys are tuples -/
def okNK (d : D) : Bool := match d, nkD d with
  | .tup _, some k => decide (k.depth ≤ 8)
  | _, _ => false
def nEq (a b : D) : Bool := match nkD a, nkD b with
  | some x, some y => decide (x = y)
  | _, _ => false
/-- the entries of a dict with tuple keys -/
def nD : D → Option (List (D × D))
  | .dcn kvs => some kvs
  | .dct [] => some []
  | _ => none
def nput (kvs : List (D × D)) (k v : D) : List (D × D) := if (kvs.any fun p => nEq p.1 k) = true then kvs.map (fun p => if nEq p.1 k = true then (p.1, v) else p) else kvs ++ [(k, v)]
theorem okNK_eq {d : D} (h : okNK d = true) : ∃ ds k, d = .tup ds ∧ nkD d = some k ∧ k.depth ≤ 8 := by
  unfold okNK at h
  split at h
  · rename_i ds k e; exact ⟨ds, k, rfl, e, by simpa using h⟩
  · cases h
section
variable {K : PySem.W.Frag} {W : Wd G} {P H : Hp} {kvs : List (D × D)} {xs : List (NestedKey × Addr × Value)}
theorem Repn.len : ∀ {kvs : List (D × D)} {xs : List (NestedKey × Addr × Value)}, Repn K W P kvs xs → kvs.length = xs.length
  | [], xs, h => by simp only [Repn] at h; subst h; rfl
  | (k, d) :: ds, xs, h => by
    simp only [Repn] at h
    obtain ⟨nk, b, u, v, r, rfl, h1, h2, h3, h4, h5, h6⟩ := h
    rw [List.length_cons, List.length_cons, Repn.len h6]
theorem Repn.keys (s : Sub P H) : ∀ {kvs : List (D × D)} {xs : List (NestedKey × Addr × Value)}, Repn K W P kvs xs → (∀ x ∈ xs, DX.NKy K H x.2.1 x.1) ∧ Reps K W P (kvs.map (·.1)) (xs.map fun x => V.ref x.2.1)
  | [], xs, h => by simp only [Repn] at h; subst h; exact ⟨(fun x hx => nomatch hx), by simp [Reps]⟩
  | (k, d) :: ds, xs, h => by
    simp only [Repn] at h
    obtain ⟨nk, b, u, v, r, rfl, h1, h2, h3, h4, h5, h6⟩ := h
    obtain ⟨i1, i2⟩ := Repn.keys s h6
    refine ⟨fun x hx => ?_, ?_⟩
    · rcases List.mem_cons.mp hx with rfl | hx
      · exact ⟨by rw [← nk_py k nk h1]; exact Rep.dp s k _ (nk_pl k nk h1) h3, h2⟩
      · exact i1 x hx
    · rw [List.map_cons, List.map_cons]
      simp only [Reps]
      exact ⟨_, _, rfl, h3, i2⟩
theorem Repn.app : ∀ {kvs : List (D × D)} {xs : List (NestedKey × Addr × Value)} {k d : D} {nk : NestedKey} {b : Addr} {u : Value} {v : V}, Repn K W P kvs xs → nkD k = some nk → nk.depth ≤ 8 → Rep K W P k (.ref b) → RelV v u → Rep K W P d v → Repn K W P (kvs ++ [(k, d)]) (xs ++ [(nk, b, u)])
  | [], xs, k, d, nk, b, u, v, h, a1, a2, a3, a4, a5 => by
    simp only [Repn] at h; subst h
    show Repn K W P [(k, d)] [(nk, b, u)]
    simp only [Repn]
    exact ⟨nk, b, u, v, [], rfl, a1, a2, a3, a4, a5, rfl⟩
  | (k', d') :: ds, xs, k, d, nk, b, u, v, h, a1, a2, a3, a4, a5 => by
    simp only [Repn] at h
    obtain ⟨nk', b', u', v', r, rfl, h1, h2, h3, h4, h5, h6⟩ := h
    show Repn K W P ((k', d') :: (ds ++ [(k, d)])) ((nk', b', u') :: (r ++ [(nk, b, u)]))
    simp only [Repn]
    exact ⟨nk', b', u', v', _, rfl, h1, h2, h3, h4, h5, Repn.app h6 a1 a2 a3 a4 a5⟩
theorem Repn.has {k : D} {nk : NestedKey} (a1 : nkD k = some nk) : ∀ {kvs : List (D × D)} {xs : List (NestedKey × Addr × Value)}, Repn K W P kvs xs → (kvs.any fun p => nEq p.1 k) = (atKey xs nk).isSome
  | [], xs, h => by simp only [Repn] at h; subst h; rfl
  | (k', d') :: ds, xs, h => by
    simp only [Repn] at h
    obtain ⟨nk', b', u', v', r, rfl, h1, h2, h3, h4, h5, h6⟩ := h
    have ih := Repn.has a1 h6
    have e : nEq k' k = decide (nk' = nk) := by simp [nEq, h1, a1]
    rw [List.any_cons, ih]
    simp only [e, atKey, List.find?_cons]
    by_cases c : nk' = nk
    · simp [c]
    · simp [c]
theorem Repn.upd {k d : D} {nk : NestedKey} {u : Value} {v : V} (a1 : nkD k = some nk) (a4 : RelV v u) (a5 : Rep K W P d v) : ∀ {kvs : List (D × D)} {xs : List (NestedKey × Addr × Value)}, Repn K W P kvs xs → Repn K W P (kvs.map fun p => if nEq p.1 k = true then (p.1, d) else p) (xs.map (putAt nk u))
  | [], xs, h => by simp only [Repn] at h; subst h; simp [Repn]
  | (k', d') :: ds, xs, h => by
    simp only [Repn] at h
    obtain ⟨nk', b', u', v', r, rfl, h1, h2, h3, h4, h5, h6⟩ := h
    have ih := Repn.upd a1 a4 a5 h6
    have e : nEq k' k = decide (nk' = nk) := by simp [nEq, h1, a1]
    rw [List.map_cons, List.map_cons]
    by_cases c : nk' = nk
    · simp only [e, c, decide_true, if_true]
      simp only [Repn]
      refine ⟨nk', b', u, v, _, ?_, h1, h2, h3, a4, a5, ih⟩
      simp [putAt, c]
    · simp only [e, c, decide_false, Bool.false_eq_true, if_false]
      simp only [Repn]
      refine ⟨nk', b', u', v', _, ?_, h1, h2, h3, h4, h5, ih⟩
      simp [putAt, c]
theorem Repn.put {k d : D} {nk : NestedKey} {b : Addr} {u : Value} {v : V} (h : Repn K W P kvs xs) (a1 : nkD k = some nk) (a2 : nk.depth ≤ 8) (a3 : Rep K W P k (.ref b)) (a4 : RelV v u) (a5 : Rep K W P d v) : Repn K W P (nput kvs k d) (storedH xs nk b u) := by
  unfold nput storedH
  rw [h.has a1]
  split
  · exact h.upd a1 a4 a5
  · exact h.app a1 a2 a3 a4 a5
theorem own_nD {d : D} {a : Addr} {o : HO} (h : nD d = some kvs) (e : H a = some o) (r : Own K W P a o d) : ∃ xs, DX.NDm W.pw H a xs ∧ Repn K W P kvs xs := by
  cases d with
  | dcn kv =>
    simp only [nD, Option.some.injEq] at h; subst h
    obtain ⟨xs, rfl, h2⟩ := r
    exact ⟨xs, .inl e, h2⟩
  | dct kv =>
    cases kv with
    | nil =>
      simp only [nD, Option.some.injEq] at h; subst h
      obtain ⟨ks, ⟨kvs, rfl, rfl⟩, h2⟩ := r
      simp only [Repk] at h2
      have : kvs = [] := List.map_eq_nil_iff.mp h2
      subst this
      exact ⟨[], .inr ⟨rfl, e⟩, by simp [Repn]⟩
    | cons p kv => cases h
  | _ => cases h
end
/-! ### d[k] = v -/
section
variable {C : CF} {Fam : Wd G → Prop} {a b : Expr} {fk fv fa : M G S} {pos p p1 p2 : Pos}
def mDPutN (i : Nat) (fk fv : M G S) : M G Fl := fun st g => bnd (mTake fv st g) fun dv st g => bnd (mAt i st g) fun _ st g => bnd (fk st g) fun k st g => (peek k st).bind fun dk =>
  match st[i]? with
  | some (some (.ow d)) => (nD d).bind fun kvs => if okNK dk = true ∧ kvs.length < sizeLine then some (.nx, st.set i (some (.ow (.dcn (nput kvs dk dv)))), g) else none
  | _ => none
theorem d_dputN (i : Nat) {x : Str} (hv : DE C Fam b fv) (hk : DE C Fam a fk) (hF : ∀ W, Fam W → W.pw = C.w) (hN : C.N[i]? = some x := by rfl) (hvis : ∀ j, Vis (C.X j).env.scope x := by intro _; first | exact Or.inl rfl | exact Or.inr (Or.inl rfl) | exact Or.inr (Or.inr rfl)) (hd : (x == ("__debug__" : Str)) = false := by decide)
    (hcd : (x == ("__classdict__" : Str)) = false := by decide) (hs : ∀ j, swapsWith b (some (.Subscript (.Name x p1) a p2)) pos.line (C.X j).env = pure false := by intro _; rfl) : DS C Fam (.Assign [.Subscript (.Name x p1) a p2] b pos) (mDPutN i fk fv) := by
  obtain ⟨ta, pa, ea⟩ := hk.ex
  obtain ⟨tb, pb, eb⟩ := hv.ex
  refine ⟨DX.sNPut C.w C.K (tVar i) ta tb, fun l => ?_, fun W hW => ?_⟩
  · rw [← C.hw l, ← C.hK l]
    exact DX.ps_nput (by have := C.un l; omega) (pe_var (i := i) (by rw [C.hN l]; exact hN) (hvis l) hd hcd) (pa l) (pb l) (hs l)
  intro P₀ H₀ σ st τ ts H g fl st' g' E n R h q
  obtain ⟨dv, st1, g1, e1, h⟩ := bnd_eq h
  obtain ⟨y, st2, g2, e2, h⟩ := bnd_eq h
  obtain ⟨k, st3, g3, e3, h⟩ := bnd_eq h
  obtain ⟨dk, e4, h⟩ := Option.bind_eq_some_iff.mp h
  obtain ⟨z, st0, e5, e6⟩ := mTake_eq e1
  refine eb W hW _ _ _ _ _ _ _ _ _ _ _ _ R e5 fun v H1 R1 => ?_
  obtain ⟨P, O, R1⟩ := R1
  obtain ⟨P', O', R1⟩ := R1.takeV e6
  refine ev_var i _ _ _ _ _ _ _ _ _ _ _ _ ⟨P', O', R1⟩ (mAt_var e2).1 fun u H2 R2 => ?_
  refine ea W hW _ _ _ _ _ _ _ _ _ _ _ _ R2 e3 fun kv H3 R3 => ?_
  obtain ⟨P, O, R3⟩ := R3
  cases hi : st3[i]? with
  | none => rw [hi] at h; cases h
  | some s =>
    rw [hi] at h
    cases s with
    | none => cases h
    | some s =>
      cases s with
      | ow d =>
        simp only at h
        obtain ⟨kvs, hn, h⟩ := Option.bind_eq_some_iff.mp h
        split at h
        · rename_i hlen
          simp only [Option.some.injEq, Prod.mk.injEq] at h; obtain ⟨rfl, rfl, rfl⟩ := h
          obtain ⟨ds, nk, rfl, ek, hdp⟩ := okNK_eq hlen.1
          have rk : Rep C.K W P (.tup ds) kv := R3.peekV e4
          have rv : Rep C.K W P dv v := R3.temps.2.2.1
          obtain ⟨w', ew, _, a', o, rfl, eO, eH, ro⟩ := R3.slot hi
          obtain ⟨xs, nm, rp⟩ := own_nD hn eH ro
          have hu : u = .ref a' := by
            have hs : SOk C.K W P O H3 σ (.tmp (v :: τ).length) u y := R3.temps.2.1
            have hy : y = .at i := (mAt_var e2).2
            subst hy
            have : σ[i]? = some (some u) := hs
            rw [ew] at this; cases this; rfl
          subst hu
          obtain ⟨kb, hkb⟩ : ∃ kb, kv = .ref kb := by
            simp only [Rep] at rk
            obtain ⟨c, _, e, _⟩ := rk
            exact ⟨c, e⟩
          subst hkb
          have hw := hF W hW
          refine ⟨a', kb, xs, nk, rfl, rfl, by rw [← hw]; exact nm, (rp.keys R3.sub).1, ⟨by rw [← nk_py _ nk ek]; exact Rep.dp R3.sub _ _ (nk_pl _ nk ek) rk, hdp⟩, by rw [← rp.len]; exact hlen.2, fun r rr => ?_⟩
          have R4 := R3.pop.pop.pop.write (o := .dK []) hi ew (o' := nDictO W.pw a' (storedH xs nk kb r)) (d' := .dcn (nput kvs (.tup ds) dv)) ⟨_, rfl, rp.put ek hdp rk rr rv⟩
          rw [hw] at R4
          exact q _ _ ⟨P, O, R4⟩
        · cases h
      | _ => cases h
/-! ### sorted(d) -/
end
end DL
namespace DL
open PySem PySem.Spec PyProof.Rows L2
/-! ### {k: v for p in src if t} -/
end DL
namespace DL
open PySem PySem.Spec PyProof.Rows L2
/-! ### defs that are called by names too -/
theorem kwB_of {K : PySem.W.Frag} {x qual : Str} {params : Arguments} {body : List Stmt} {scope : Scope} {kws : List (Str × V)} {f : Addr} {fd : FuncData} {ps ks : List Str} {pm : List Nat} (F : FunD K x qual params body scope [] kws f fd)
    (h : ∀ (kV doc pmv : Value) (an : Option Addr) (cdv ct : Value) (ws : List Value), ws.length = ks.length → bindArgs (PySem.W.fnOf x qual params body scope .none kV doc pmv an cdv ct) ⟨[], ks.zip ws⟩ = pure (ps.zip (pm.map fun i => ws.getD i .none))) : KwB K fd ps ks pm := by
  obtain ⟨oc, od, dV, kV, doc, pmv, an, cdv, ct, osl, rfl, lk, hcd, hD, hK⟩ := F.ex
  rcases hD with ⟨_, rfl⟩ | ⟨e, _⟩
  · exact fun s ws _ hl => .of_eq (h kV doc pmv an cdv ct ws hl)
  · exact absurd rfl e
def DefOkK (K : PySem.W.Frag) (mg : Str → Option Value) (x : Str) (st : Stmt) (ps : List Str) (kl : List (List Str × List Nat)) : Prop := ∃ f fd, Fun K x x st f fd ∧ mg x = some (.ref f) ∧ Binds K fd ps [] ∧ ∀ q ∈ kl, KwB K fd ps q.1 q.2
section
variable {G : Type} {Fam : Wd G → Prop} {P : Program} {w : World} {K : PySem.W.Frag} {mg : Str → Option Value} {base : Heap} {k n : Nat} {x : Str} {stm : Stmt} {N ps : List Str} {b : M G Fl} {kl : List (List Str × List Nat)}
theorem DefOkK.one (h : DefOkK K mg x stm ps kl) : DefOk K mg x stm ps := let ⟨f, fd, F, hm, hb, _⟩ := h; ⟨f, fd, F, hm, hb⟩
theorem fdk_to (h : DefOkK K mg x stm ps kl) (Sc : FnScope N ps (defScope stm)) (hn : ps.length = n) (hbody : ∀ f, DSs (fcx P w K mg base N k x stm f Sc.nd) Fam (defBody stm) b) : FDK P w K mg base Fam (k + 1) x n (mFn n N.length b) kl :=
  let ⟨f, fd, F, hm, hb, hk⟩ := h
  ⟨f, fd, ps, fnG_to F Sc hn (hbody f), hm, F.kp, hb, hn, hk⟩
end
end DL
namespace DL
open PySem PySem.Spec PyProof.Rows L2
/-! ### the head, with tuples of the module too -/
def flatV : D → V
  | .bl b => .bl b
  | .int i => .int i
  | .str x => .str x
  | _ => .non
def isFlat : D → Bool
  | .bl _ => true
  | .int _ => true
  | .str _ => true
  | .non => true
  | _ => false
def tupN (K : PySem.W.Frag) (x : Str) (ds : List D) : Bool := ds.all isFlat && match K.lookup (He.ga K x) with
  | some ⟨.type c, none, .seq its _, _⟩ => decide (c = "tuple") && (decide (its.size ≤ sizeLine) && He.relAll (ds.map flatV) its.toList)
  | _ => false
def obsE (fa : List He.Fa) (fn : List He.DefD) (tb : List (Str × List D)) (K : PySem.W.Frag) : He.AlD × Bool := (He.obsD fa fn K, tb.all fun q => tupN K q.1 q.2)
def SaysE (fa : List He.Fa) (fn : List He.DefD) (tb : List (Str × List D)) (K : PySem.W.Frag) : Prop := obsE fa fn tb K = (He.valD fn, true)
def obsEG (n : Nat) (fa : List He.Fa) (fn : List He.DefD) (tb : List (Str × List D)) (g : Addr → Option Obj) : He.AlD × Bool := obsE fa fn tb (He.frG g (He.asD g n))
def hookE (n : Nat) (fa : List He.Fa) (fn : List He.DefD) (tb : List (Str × List D)) : PySem.W.Hook where
  α := He.AlD × Bool
  obs := fun s => obsEG n fa fn tb s.heap.get?
  val := fun _ => (He.valD fn, true)
  says := fun _ h => ∃ K : PySem.W.Frag, K.In h ∧ SaysE fa fn tb K
  of := fun _ _ e => ⟨_, He.frG_in, e⟩
  keeps := fun _ _ _ ⟨K, hK, c⟩ k => ⟨K, PySem.W.Frag.In.keeps hK k, c⟩
theorem obsEG_eq {n : Nat} {fa : List He.Fa} {fn : List He.DefD} {tb : List (Str × List D)} {g : Addr → Option Obj} {s : Shared} (h : ∀ a, g a = s.heap.get? a) : obsEG n fa fn tb g = (hookE n fa fn tb).obs s := by
  have e : g = s.heap.get? := funext h
  rw [e] <;> rfl
theorem SaysE.d {fa : List He.Fa} {fn : List He.DefD} {tb : List (Str × List D)} {K : PySem.W.Frag} (c : SaysE fa fn tb K) : He.SaysD fa fn K := congrArg Prod.fst c
theorem SaysE.tup {fa : List He.Fa} {fn : List He.DefD} {tb : List (Str × List D)} {K : PySem.W.Frag} (c : SaysE fa fn tb K) (i : Nat) {x : Str} {ds : List D} (h : tb[i]? = some (x, ds) := by rfl) : tupN K x ds = true :=
  List.all_eq_true.mp (congrArg Prod.snd c : (tb.all fun q => tupN K q.1 q.2) = true) (x, ds) (List.mem_of_getElem? h)
end DL
namespace DL
open PySem
theorem pwDF {pw : World} {W : Wd Dk} (h : DF pw W) : W.pw = pw := by
  obtain ⟨a0, a1, a2, h01, h02, h12, rfl⟩ := h; rfl
end DL
namespace DX
open PySem PySem.Spec PyProof.Rows L2
section
variable {X : Cx}
/-- d.update(e), e another dict -/
def rUpdK : V → List V → Hp → VK → Prop := fun x vs H Q => ∃ (d o : Addr) (kvs more : List (Key × V)), x = .ref d ∧ vs = [.ref o] ∧ d ≠ o ∧ H d = some (.dK kvs) ∧ Rd H o (.dK more) ∧ kvs.length + more.length ≤ sizeLine ∧ Q .non (upd H d (.dK (mergeK kvs more)))
theorem mergeK_len : ∀ (more kvs : List (Key × V)), (mergeK kvs more).length ≤ kvs.length + more.length
  | [], kvs => Nat.le_refl _
  | p :: more, kvs => by
    have h := mergeK_len more (putK kvs p.1 p.2)
    have h2 := length_putK kvs p.1 p.2
    show (mergeK (putK kvs p.1 p.2) more).length ≤ _
    rw [List.length_cons]; omega
theorem mt_updK : MtR X "dict.update" rUpdK := by
  intro pins s σ H x vs v us Q I rx rv h
  obtain ⟨d, o, kvs, more, rfl, rfl, hne, hd, ho, hz, q⟩ := h
  cases rx
  cases rv with
  | cons r1 rr =>
    cases rr
    cases r1
    obtain ⟨z1, hs1, xs, rel1, dd1⟩ := dk_of I.hok hd
    obtain ⟨z2, hs2, ys, rel2, dd2⟩ := dk_rd I.hok ho
    refine call_meetsIn PySem.F.slot_dict_update dd1.typeIs PySem.F.entry_dict_update (PySem.F.args_dict_update_2 _ _) (meets_dict_update (mixKind X.prog X.w) d o hne hs2) ⟨xs, ys, dd1, dd2, by rw [← rel1.length, ← rel2.length]; exact hz, fun h' dd' _ hs => ?_⟩
    have he : ∃ q, h'.get? d = some q := let ⟨q, _, _, hq, _⟩ := dd'; ⟨q, hq⟩
    exact ⟨.non, _, d_write (t' := s.toks) I (by rw [hd]; exact True.intro) hs he (dk_new (Nat.le_trans (mergeK_len more kvs) hz) hs1 (KV.merge rel2 rel1) dd'), rfl, q⟩
end
end DX
namespace DL
open PySem PySem.Spec PyProof.Rows L2
variable {G : Type}
/-! ### d.update(e), d being the dict of slot i -/
def dupd (kvs more : List (D × D)) : List (D × D) := more.foldl (fun acc p => dput acc p.1 p.2) kvs
def opUpd : D → D → Option D
  | .dct kvs, .dct more => if kvs.length + more.length ≤ sizeLine then some (.dct (dupd kvs more)) else none
  | _, _ => none
def mAtD (i : Nat) : M G S := fun st g => match st[i]? with
  | some (some (.ow (.dct _))) => some (.at i, st, g)
  | _ => none
theorem mAtD_at {i : Nat} {st : Sl} {g : G} {r} (h : mAtD i st g = some r) : mVar i st g = some r ∧ r.1 = .at i ∧ r.2 = (st, g) ∧ ∃ kvs, st[i]? = some (some (.ow (.dct kvs))) := by
  unfold mAtD at h
  unfold mVar
  split at h
  · rename_i d e
    cases h
    exact ⟨by simp [e], rfl, rfl, d, e⟩
  · cases h
def mMethD (i : Nat) (op : D → D → Option D) (f : M G S) : M G S := fun st g => bnd (mAtD i st g) fun _ st g => bnd (mTake f st g) fun d st g =>
  match st[i]? with
  | some (some (.ow e)) => (op e d).map fun e' => (.sh .non, st.set i (some (.ow e')), g)
  | _ => none
theorem ev_methD {K : PySem.W.Frag} {W : Wd G} {r : V → List V → Hp → VK → Prop} {op : D → D → Option D} {ta : TE} {f : M G S} {i : Nat} (ea : EvE K W ta f) (hb : BM K W "dict" r op) : EvE K W (tBM K "dict" r (tVar i) (tCons ta tNil)) (mMethD i op f) := by
  intro P₀ H₀ σ st τ ts H g z st' g' Q R h q
  obtain ⟨y, st1, g1, e1, h1⟩ := bnd_eq h
  clear h
  obtain ⟨d, st2, g2, e2, h⟩ := bnd_eq h1
  clear h1
  obtain ⟨m1, m2, m3, ds0, m4⟩ := mAtD_at e1
  simp only at m2
  subst m2
  refine ev_var i _ _ _ _ _ _ _ _ _ _ _ _ R m1 fun u H1 R1 => ?_
  obtain ⟨x, st0, e3, e4⟩ := mTake_eq e2
  simp only [Prod.mk.injEq] at m3
  obtain ⟨rfl, rfl⟩ := m3
  have ty : tyV K "dict" u H1 := by
    obtain ⟨P, O, R1⟩ := R1
    obtain ⟨w', ew, _, a', o, rfl, eO, eH, ks, ⟨kvs, rfl, _⟩, _⟩ := R1.slot m4
    have : σ[i]? = some (some u) := R1.temps.1
    rw [ew] at this; cases this
    exact .inr (.inr (.inl ⟨rfl, .inl ⟨kvs, eH⟩⟩))
  refine ⟨ty, ?_⟩
  refine ea _ _ _ _ _ _ _ _ _ _ _ _ R1 e3 fun v H2 R2 => ?_
  obtain ⟨P, O, R2⟩ := R2
  obtain ⟨P, O, R2⟩ := R2.takeV e4
  cases hi : st2[i]? with
  | none => rw [hi] at h; cases h
  | some s =>
    rw [hi] at h
    cases s with
    | none => cases h
    | some s =>
      cases s with
      | ow e =>
        obtain ⟨e', e5, h⟩ := Option.map_eq_some_iff.mp h
        simp only [Prod.mk.injEq] at h; obtain ⟨rfl, rfl, rfl⟩ := h
        obtain ⟨w', ew, _, a', o, rfl, eO, eH, ow⟩ := R2.slot hi
        have hu : σ[i]? = some (some u) := R2.temps.2.1
        rw [ew] at hu; cases hu
        refine hb P H2 a' o e d e' v Q R2.sub (R2.own a' _ eO).1 eH ow R2.temps.1 e5 fun o' ow' => ?_
        have R4 := R2.pop.pop.write (o := o) hi ew (o' := o') ow'
        exact q _ _ ⟨P, O, R4.push (by simp)⟩
      | _ => cases h
theorem bm_upd {K : PySem.W.Frag} {W : Wd G} : BM K W "dict" DX.rUpdK opUpd := by
  intro P H a o e d e' v Q hs hp eH ow rv h q
  cases e with
  | dct kvs =>
    cases d with
    | dct more =>
      simp only [opUpd] at h
      split at h
      · rename_i hz
        cases h
        obtain ⟨ks, ⟨ks1, rfl, rfl⟩, r1⟩ := ow
        have rv : Rep K W P (.dct more) v := rv
        simp only [Rep] at rv
        obtain ⟨b, o2, ks2, rfl, eb, ⟨kv2, hk2, rfl⟩, r2⟩ := rv
        have hne : a ≠ b := fun z => by subst z; rw [hp] at eb; cases eb
        have l1 := r1.length
        have l2 := r2.length
        rw [List.length_map] at l1 l2
        refine ⟨a, b, ks1, kv2, rfl, rfl, hne, eH, hk2.rd (hs _ _ eb), by omega, q _ ⟨_, ⟨_, rfl, rfl⟩, ?_⟩⟩
        exact merge_rep r2 r1
      · cases h
    | _ => cases h
  | _ => cases h
section
variable {C : CF} {Fam : Wd G → Prop} {a b : Expr} {fa fb : M G S} {pos p1 p2 : Pos}
theorem d_upd (i : Nat) {x : Str} (ha : DE C Fam a fa) (hN : C.N[i]? = some x := by rfl) (hvis : ∀ j, Vis (C.X j).env.scope x := by intro _; first | exact Or.inl rfl | exact Or.inr (Or.inl rfl) | exact Or.inr (Or.inr rfl)) (hd : (x == ("__debug__" : Str)) = false := by decide)
    (hcd : (x == ("__classdict__" : Str)) = false := by decide) (hbase : ∀ j, attributeBase (.Name x p1) "update" (C.X j).env (eval (.Name x p1) (C.X j).env) = eval (.Name x p1) (C.X j).env := by intro _; rfl)
    (hfew : ∀ j, ((backTo pos (starEach [a] (C.X j).env)).all (fun x => !x.1) && (backToKw pos (keywordEach [] (C.X j).env)).all (fun x => x.1.isSome) && decide ([a].length + ([] : List Keyword).length + (if ([] : List Keyword).isEmpty then 0 else 1) < 30)) = true := by intro _; rfl)
    (hline : (p2.endLine == pos.line) = true := by rfl) (he : ∀ j, starEach [a] (C.X j).env = (false, eval a (C.X j).env) :: starEach [] (C.X j).env := by intro _; rfl) : DE C Fam (.Call (.Attribute (.Name x p1) "update" p2) [a] [] pos) (mMethD i opUpd fa) := by
  obtain ⟨ta, pa, ea⟩ := ha.ex
  exact ⟨_, fun j => by rw [← C.hK j]; exact pe_bm PySem.F.plainAttrs_dict PySem.F.slot_dict_update PySem.F.type_dict_update DX.mt_updK (pe_var (i := i) (by rw [C.hN j]; exact hN) (hvis j) hd hcd) (pa_cons (pa j) pa_nil (he j)) (hbase j) (hfew j) hline (he j), fun W hW => ev_methD (ea W hW) bm_upd⟩
end
/-! ### x.insert(i, e), x being the list of slot i -/
end DL
namespace DX
open PySem PySem.Spec PyProof.Rows L2
open AutoSeq1 (wpAny_loadPart')
/-! ### enumerate(tuple) -/
theorem meets_enumT (l : Addr) (items : Array Value) (n : Nat) (dct : Option Addr) (sl : Array (Option Value)) :
    Meets (Builtin.«enumerate.__new__» ⟨[.type "enumerate", .ref l], []⟩) (fun _ R s => s.heap.get? l = some { cls := .type "tuple", dict := dct, data := .seq items n, slots := sl } ∧
      R (.ok (.ret (.ref (s.heap.push { cls := .type "tuple_iterator", data := .fields #[.ref l, .int 0 0] }).objs.size)))
        { s with heap := (s.heap.push { cls := .type "tuple_iterator", data := .fields #[.ref l, .int 0 0] }).push { cls := .type "enumerate", data := .fields #[.none, .bool false, .ref s.heap.objs.size, rawInt 0, .none, .none] } }) :=
  .of_wp fun prog w A R s h => by
    obtain ⟨hp, g, d, tk, os⟩ := s; obtain ⟨hl, h⟩ := h
    have hsub := sub_enumerate
    have hT : Heap.IsTuple (Shared.heap ⟨hp, g, d, tk, os⟩) l items := ⟨_, hl, rfl, n, rfl⟩
    wp_walk using wpAny_loadPart' hl
    refine wpAny_stack_any fun st => wpAny_pure ?_
    split
    · rename_i c _ _ _ _ _
      cases (c == Value.type "enumerate")
      · wp_walk using wpAny_loadPart' hl, wpAny_pyIter_tuple hT
        exact ⟨_, rfl, h⟩
      · wp_walk using wpAny_loadPart' hl, wpAny_pyIter_tuple hT
        exact ⟨_, rfl, h⟩
    · wp_walk using wpAny_loadPart' hl, wpAny_pyIter_tuple hT
      exact ⟨_, rfl, h⟩
section
variable {prog : Program} {w : World} {A : Around} {E : Value → Shared → Prop} {s : Shared}
theorem call_enumT {l : Addr} {items : Array Value} {Q : Value → Shared → Prop} (hL : s.heap.IsTuple l items)
    (h : ∀ h', IsEnum h' (s.heap.objs.size + 1) s.heap.objs.size 0 .none → h'.IsTupleIter s.heap.objs.size l 0 → h'.objs.size = s.heap.objs.size + 2 →
      (∀ b o, s.heap.get? b = some o → h'.get? b = some o) → Q (.ref (s.heap.objs.size + 1)) { s with heap := h' }) :
    wpAny (model prog w) A (call (.type "enumerate") [.ref l]) Q E s := by
  obtain ⟨⟨c, dct, dt, sl⟩, hl, hc, n, hd⟩ := hL
  replace hc : c = .type "tuple" := hc
  replace hd : dt = .seq items n := hd
  subst hc hd
  refine callType_new F.called_enumerate (by decide) (F.typeCall_enumerate_1 _) (F.newCall_enumerate_1 _) (fun obj => F.args_object_init_2 obj _) F.entry_enumerate_new
    (meets_enumT l items n dct sl) ⟨hl, ?_⟩
  have hz : (s.heap.push { cls := .type "tuple_iterator", data := .fields #[.ref l, .int 0 0] }).objs.size = s.heap.objs.size + 1 := Heap.size_push ..
  show _ ∧ _
  rw [hz]
  have he : IsEnum ((s.heap.push { cls := .type "tuple_iterator", data := .fields #[.ref l, .int 0 0] }).push
      { cls := .type "enumerate", data := .fields #[.none, .bool false, .ref s.heap.objs.size, rawInt 0, .none, .none] }) (s.heap.objs.size + 1) s.heap.objs.size 0 .none := by
    have := Heap.get?_push_size (s.heap.push { cls := .type "tuple_iterator", data := .fields #[.ref l, .int 0 0] })
      (o := { cls := .type "enumerate", data := .fields #[.none, .bool false, .ref s.heap.objs.size, rawInt 0, .none, .none] }) rfl
    rw [hz] at this; exact this
  refine ⟨⟨_, he, rfl⟩, h _ he ⟨_, Heap.get?_push_of_some _ (Heap.get?_push_size _ rfl), rfl, rfl⟩ (by rw [Heap.size_push, hz]) fun b o x => Heap.get?_push_of_some _ (Heap.get?_push_of_some _ x)⟩
/-- what the iterator of a tuple draws -/
theorem drawsT {it t : Addr} {items : Array Value} (hh : A.handled = none) (hne : t ≠ it) : Draws prog w A it [it, t] items.size (fun i x => items[i]? = some x) (fun i h => h.IsTupleIter it t i ∧ h.IsTuple t items) where
  live := fun i h st => let ⟨o, ho, _⟩ := st.1; ⟨o, ho⟩
  frame := fun i h h' st k => ⟨let ⟨o, ho, r⟩ := st.1; ⟨o, k it (by simp) o ho, r⟩, let ⟨o, ho, r⟩ := st.2; ⟨o, k t (by simp) o ho, r⟩⟩
  item := fun i s Q E hi st hQ => by
    have hx : items[i]? = some items[i] := Array.getElem?_eq_getElem hi
    refine wpAny_nextOf_tuple_item st.1 st.2 hx fun h' st' sb => hQ _ h' s.toks hx ⟨st', ?_⟩ sb
    obtain ⟨o, ho, r⟩ := st.2
    exact ⟨o, (sb.2 t hne).trans ho, r⟩
  done := fun s Q E st hE => wpAny_nextOf_tuple_end hh st.1 st.2 (by simp) hE
end
theorem endsT {prog : Program} {w : World} {A : Around} {it t : Addr} {items : Array Value} {i : Nat} (hh : A.handled = none) (hi : items.size ≤ i) : Draws prog w A it [it, t] i (fun _ _ => False) (fun j h => j = i ∧ h.IsTupleIter it t i ∧ h.IsTuple t items) where
  live := fun j h st => let ⟨o, ho, _⟩ := st.2.1; ⟨o, ho⟩
  frame := fun j h h' st k => ⟨st.1, let ⟨o, ho, r⟩ := st.2.1; ⟨o, k it (by simp) o ho, r⟩, let ⟨o, ho, r⟩ := st.2.2; ⟨o, k t (by simp) o ho, r⟩⟩
  item := fun j s Q E hj st hQ => absurd st.1 (Nat.ne_of_lt hj)
  done := fun s Q E st hE => wpAny_nextOf_tuple_end hh st.2.1 st.2.2 (by simp; exact hi) hE
/-- the tuple at a as it stands at each turn, each item in a new pair -/
def IteT (K : PySem.W.Frag) (a : Addr) : It :=
  ⟨fun i H => ∃ (xs : List V) (x : V), SqT K H a xs ∧ xs[i]? = some x, fun i H v H' => ∃ T x, v = .ref T ∧ H T = none ∧ H' = upd H T (.tup [.int (i : Nat), x]) ∧ ∀ xs, SqT K H a xs → xs[i]? = some x, fun i H => ∃ xs : List V, SqT K H a xs ∧ xs.length ≤ i⟩
theorem turn_enumT {P : Program} {w : World} {K : PySem.W.Frag} {elts : List Expr} {kk : Nat} {tpos : Pos} (a e it : Addr) :
    Turn P w K (.Tuple elts kk tpos) (IteT K a) [e, it] e (fun i h => (∃ old, IsEnum h e it ((i : Nat) : Int) old) ∧ h.IsTupleIter it a i ∧ e ≠ it) where
  mem := by simp
  obj := fun i h st b hb => by
    obtain ⟨⟨old, he⟩, ⟨o, ho, hc, hd⟩, _⟩ := st
    have e' : b = e ∨ b = it := by simpa using hb
    rcases e' with z | z
    · rw [z]; exact ⟨_, he, fun v q => nomatch q⟩
    · rw [z]; exact ⟨o, ho, fun v q => by rw [hd] at q; cases q⟩
  keep := fun i h h' st k => let ⟨⟨old, he⟩, hi, hne⟩ := st; ⟨⟨old, k e (by simp) _ he⟩, hi.at fun o q => k it (by simp) o q, hne⟩
  item := by
    intro X hP hw hK hc i pins s σ H E I hf st hg
    subst hP hw hK
    obtain ⟨⟨old, he⟩, hit, hne⟩ := st
    obtain ⟨xs, x, hq, hx⟩ := hg
    obtain ⟨its, rv, p, hz⟩ := I.tuple hq
    obtain ⟨u, hu, ru⟩ := rv.get hx
    have hel : e < s.heap.objs.size := Heap.lt_size he
    have hil : it < s.heap.objs.size := by obtain ⟨_, q, _⟩ := hit; exact Heap.lt_size q
    have pt : s.heap.IsTuple a its.toArray := p
    have hai : a ≠ it := fun z => by
      obtain ⟨o1, h1, c1, _⟩ := pt
      obtain ⟨o2, h2, c2, _⟩ := hit
      rw [z, h2] at h1; cases h1; rw [c2] at c1; exact absurd c1 (by decide)
    have hae : e ≠ a := fun z => by
      obtain ⟨o1, h1, c1, _⟩ := pt
      have he' : s.heap.get? e = some _ := he
      rw [← z, he'] at h1; cases h1; exact absurd (Value.type.inj c1) (by decide)
    have hlt : i < its.toArray.size := by
      have := (List.getElem?_eq_some_iff.mp hu).1
      simpa using this
    have D := drawsT (prog := X.prog) (w := X.w) (A := X.A.in1) (it := it) (t := a) (items := its.toArray) ((I.ok.hd hc)) hai
    refine wpAny_pyNext_enum_itemD D he ⟨hit, pt⟩ hlt hne (by simp [hne, hae]) fun y h' tk hy ho hit' hT hsz hk => ?_
    have hyu : y = u := by
      have h1 : its.toArray[i]? = some u := by simpa using hu
      rw [h1] at hy; exact (Option.some.inj hy).symm
    subst hyu
    refine ⟨_, rfl, wpAny_letOwnedTupleGo_enum (s := { s with heap := h', toks := tk + 1 }) ho fun h'' he' sb => ?_⟩
    have hT2 : h''.get? s.heap.objs.size = some { cls := .type "tuple", data := .seq #[.int i tk, y] } := (sb.2 _ (Nat.ne_of_gt hel)).trans hT
    have new : ObjOk X.prog X.w (upd H s.heap.objs.size (.tup [.int (i : Nat), x])) h'' s.heap.objs.size (.tup [.int (i : Nat), x]) :=
      ⟨by show 2 ≤ sizeLine; decide, [.int i tk, y], .cons ⟨_, rfl⟩ (.cons ru .nil), ⟨_, hT2, rfl, _, rfl⟩⟩
    have I1 : Inv X pins σ (upd H s.heap.objs.size (.tup [.int (i : Nat), x])) { s with heap := h'', toks := tk + 1 } :=
      I.turnedNew (ch := [e, it]) (fun b ob hb q => (sb.2 b (fun z => hb (by simp [z]))).trans (hk b ob (fun z => hb (by simp [z])) (fun z => hb (by simp [z])) q)) hf (Nat.le_refl _) new
    refine ⟨.ref s.heap.objs.size, _, I1, rfl, ⟨_, x, rfl, I.hok.fresh (Nat.le_refl _), rfl, fun ys hy => by rw [I.tuple_inj hy hq]; exact hx⟩, ⟨⟨y, ?_⟩, hit'.1.at fun o q => (sb.2 it (Ne.symm hne)).trans q, hne⟩, fun b hb => ?_⟩
    · have e1 : ((i + 1 : Nat) : Int) = (i : Int) + 1 := by omega
      rw [e1]; exact he'
    · have hb' : b < s.heap.objs.size := by
        have e' : b = e ∨ b = it := by simpa using hb
        rcases e' with z | z
        · rw [z]; exact hel
        · rw [z]; exact hil
      rw [upd_ne (Nat.ne_of_lt hb')]
      exact (hf b hb).1
  done := by
    intro X hP hw hK hc i pins s σ H E I hf st hg
    subst hP hw hK
    obtain ⟨⟨old, he⟩, hit, hne⟩ := st
    obtain ⟨xs, hq, hx⟩ := hg
    obtain ⟨its, rv, p, hz⟩ := I.tuple hq
    obtain ⟨f0, f1, f2, f3, f4, f5⟩ := hf it (by simp)
    have hl := rv.length
    have pt : s.heap.IsTuple a its.toArray := p
    have D := endsT (prog := X.prog) (w := X.w) (A := X.A.in1) (it := it) (t := a) (items := its.toArray) (i := i) ((I.ok.hd hc)) (by simp; omega)
    exact wpAny_pyNext_enum_endD D he ⟨rfl, hit, pt⟩ fun h' eb => ⟨rfl, I.turned (t' := s.toks) (fun b o hb q => eb b o hb q) f0 f1 f3 f4 f5⟩
  self := fun A i s Q E st h => let ⟨⟨_, he⟩, _⟩ := st; wpAny_pyIter_enum he h
def iEnumT (K : PySem.W.Frag) (ta : TA) : TI := fun σ H R => ta σ H fun vs H1 => ∃ a xs, vs = [.ref a] ∧ SqT K H1 a xs ∧ R (IteT K a) H1
theorem pi_enumT {X : Cx} {e : Expr} {ta : TA} {p pos tpos : Pos} {elts : List Expr} {kk : Nat} (hg : Gl X "enumerate") (hm : X.mg "enumerate" = none) (ha : PA X [e] ta) (hs : starEach [e] X.env = [(false, eval e X.env)] := by rfl) :
    PI X (.Tuple elts kk tpos) (.Call (.Name "enumerate" p) [e] [] pos) (iEnumT X.K ta) := by
  refine ⟨fun pins s σ H R I h => ?_⟩
  refine Call_ (ld_blt I hg hm boot_enumerate (PyProof.Rows.callWith_type1 (thn (ha.run pos pins s σ H _ I h) fun us s1 ⟨vs, H1, I1, r1, q1⟩ => ?_) hs rfl))
  obtain ⟨a, xs, ex, hq, q⟩ := q1
  subst ex
  cases r1 with
  | cons r rr =>
    cases rr
    cases r
    obtain ⟨its, rv, p', hz⟩ := I1.tuple hq
    have pt : s1.heap.IsTuple a its.toArray := p'
    refine call_enumT pt fun h' he hit hsz hk => wpAny_pyIter_enum he ?_
    have I2 : Inv X pins σ H1 { s1 with heap := h' } := I1.kept (t' := s1.toks) hk
    refine ⟨s1.heap.objs.size + 1, [s1.heap.objs.size + 1, s1.heap.objs.size], _, _, H1, rfl, I2, turn_enumT a (s1.heap.objs.size + 1) s1.heap.objs.size, ⟨⟨.none, he⟩, hit, Nat.succ_ne_self _⟩, fun b hb => ?_, q⟩
    have e' : b = s1.heap.objs.size + 1 ∨ b = s1.heap.objs.size := by simpa using hb
    have hle : s1.heap.objs.size ≤ b := by
      rcases e' with z | z
      · rw [z]; exact Nat.le_add_right _ _
      · rw [z]; exact Nat.le_refl _
    exact I1.fpOk hle (I1.hok.fresh hle)
end DX
namespace DL
open PySem PySem.Spec PyProof.Rows L2
variable {G : Type}
/-! ### enumerate of a tuple -/
section
variable {K : PySem.W.Frag} {W : Wd G}
theorem yields_enumT {a : Addr} {ds : List D} (hz : ds.length ≤ sizeLine) : Yields K W true (DX.IteT K a) (enumD ds) [.ref a] [.sh (.tup ds)] := by
  refine ⟨by simp [enumD]; exact hz, rfl, noAt_sh _, fun P₀ H₀ σ st ρ rs τ ts H g hl R => ?_⟩
  obtain ⟨P, O, R⟩ := R
  have c : Rep K W P (.tup ds) (.ref a) := R.cell hl
  simp only [Rep] at c
  obtain ⟨a', xs, e, sq, _, rp⟩ := c
  cases e
  have sq' := R.sub.sqT sq.sq
  refine ⟨fun i d e => ?_, fun i hi => ⟨xs, sq', by rw [rp.length]; simpa [enumD] using hi⟩⟩
  simp only [enumD, List.getElem?_mapIdx] at e
  obtain ⟨dx, ex, rfl⟩ := Option.map_eq_some_iff.mp e
  obtain ⟨x, ex1, rx⟩ := rp.get ex
  refine ⟨⟨xs, x, sq', ex1⟩, fun z H' ⟨T, x', e1, hT, e2, f1⟩ => ?_⟩
  have h1 : some x = some x' := ex1.symm.trans (f1 xs sq')
  cases h1
  subst e1 e2
  exact Rel.pair R hT (by simp [Rep]) rx
end
def srcEnumT (f : M G S) : M G (List D × List S) := fun st g => bnd (mTake f st g) fun d st g => match d with
  | .tup ds => some ((enumD ds, [.sh (.tup ds)]), st, g)
  | _ => none
section
variable {C : CF} {Fam : Wd G → Prop} {e : Expr} {p pos tpos : Pos}
theorem i_enumT {elts : List Expr} {kk : Nat} {f : M G S} (he : DE C Fam e f) (hm : C.mg "enumerate" = none) (hg : ∀ j, Gl (C.X j) "enumerate" := by intro _; rfl) (hs : ∀ j, starEach [e] (C.X j).env = [(false, eval e (C.X j).env)] := by intro _; rfl) :
    DI C Fam true (.Tuple elts kk tpos) (.Call (.Name "enumerate" p) [e] [] pos) (srcEnumT f) := by
  obtain ⟨ta, pa, ea⟩ := he.ex
  refine ⟨DX.iEnumT C.K (tCons ta tNil), fun j => by rw [← C.hK j]; exact DX.pi_enumT (hg j) (by rw [C.hmg j]; exact hm) (pa_cons (pa j) pa_nil (hs j)) (hs j), fun W hW P₀ H₀ σ st τ ts H g items cells st' g' R Rl h q => ?_⟩
  obtain ⟨d, st1, g1, e1, h⟩ := bnd_eq h
  obtain ⟨x, st0, e3, e4⟩ := mTake_eq e1
  cases d with
  | tup ds =>
    simp only [Option.some.injEq, Prod.mk.injEq] at h; obtain ⟨⟨rfl, rfl⟩, rfl, rfl⟩ := h
    refine ea W hW _ _ _ _ _ _ _ _ _ _ _ _ Rl e3 fun v H1 R1 => ?_
    obtain ⟨P, O, R1⟩ := R1
    obtain ⟨P', O', R1⟩ := R1.takeV e4
    have c : Rep C.K W P' (.tup ds) v := R1.temps.1
    simp only [Rep] at c
    obtain ⟨a, xs, rfl, sq, hz, rp⟩ := c
    exact ⟨a, xs, rfl, R1.sub.sqT sq.sq, q _ [.ref a] _ ⟨P', O', R1⟩ (yields_enumT hz)⟩
  | _ => cases h
end
end DL
namespace DL
open PySem PySem.Spec PyProof.Rows L2
/-! ### d.get(k) -/
end DL
namespace DL
open PySem PySem.Spec PyProof.Rows L2
/-! ### an own list is gone through by a comprehension, and is own again after it -/
end DL
namespace DL
open PySem PySem.Spec PyProof.Rows L2
/-! ### dicts with nested keys are gone through -/
end DL
namespace L2
open PySem PySem.Spec PyProof.Rows DL
section
variable {X : Cx} {pins : List (Addr × Obj)} {σ : St} {H : Hp} {s : Shared} {d : Addr} {o : Obj}
theorem frzN_at {w : World} {xs : List (NestedKey × Addr × Value)} (I : Inv X pins σ H s) (h : H d = some (.frz o (nDictO w d xs))) :
    (d == sysModules) = false ∧ s.heap.get? d = some o ∧ o.ExactDict ∧ ∃ (es : Array DictEntry) (ep : Nat), o.data = .dict es ep ∧ es.size = xs.length ∧
      ∀ (i : Nat) e, xs[i]? = some e → ∃ (en : DictEntry), es[i]? = some en ∧ en.key = .ref e.2.1 := by
  obtain ⟨hd, ⟨hs, z, nd, o', es, ep, ho, hx, hdt, he⟩, _⟩ := I.hok d _ h
  rw [hd] at ho
  cases ho
  have hsz : es.size = xs.length := by rw [← Array.length_toList, he, List.length_map]
  refine ⟨hs, hd, hx, es, ep, hdt, hsz, fun i e hi => ?_⟩
  have q : es.toList[i]? = some (⟨e.1.hash w, .ref e.2.1, e.2.2⟩ : DictEntry) := by rw [he, List.getElem?_map, hi]; rfl
  rw [Array.getElem?_toList] at q
  exact ⟨_, q, rfl⟩
end
def Itkn (w : World) (d : Addr) (o : Obj) (xs : List (NestedKey × Addr × Value)) : It :=
  ⟨fun i H => H d = some (.frz o (nDictO w d xs)) ∧ i < xs.length, fun i H x H' => H' = H ∧ ∃ e, xs[i]? = some e ∧ x = .ref e.2.1, fun i H => H d = some (.frz o (nDictO w d xs)) ∧ xs.length ≤ i⟩
section
variable {P : Program} {w w' : World} {K : PySem.W.Frag} {tg : Expr} {d : Addr} {o : Obj} {es : Array DictEntry} {ep : Nat}
theorem turn_keysN {xs : List (NestedKey × Addr × Value)} (it : Addr) (hod : o.data = .dict es ep) : Turn P w K tg (Itkn w' d o xs) [it] it (fun i h => h.IsKeyIter it d i xs.length ep) where
  mem := by simp
  obj := fun i h st b hb => by
    have e : b = it := by simpa using hb
    subst e
    obtain ⟨oi, e, c, dd⟩ := st
    exact ⟨oi, e, fun v z => by rw [dd] at z; cases z⟩
  keep := fun i h h' st k => st.at fun oi e => k it (by simp) oi e
  item := by
    intro X hP hw hK hc i pins s σ H E I hf st hg
    subst hP hw hK
    obtain ⟨hd, hi⟩ := hg
    obtain ⟨f0, f1, f2, f3, f4, f5⟩ := hf it (by simp)
    obtain ⟨hs, hgd, hx, es', ep', hdt, hsz, ent⟩ := frzN_at I hd
    obtain ⟨rfl, rfl⟩ := dict_ep hod hdt
    obtain ⟨e, he⟩ : ∃ p, xs[i]? = some p := ⟨xs[i], List.getElem?_eq_getElem hi⟩
    obtain ⟨en, hen, hkey⟩ := ent i e he
    refine next_key_item st hgd hdt hsz hen fun h' st' sb => ?_
    have I1 : Inv X pins σ H { s with heap := h' } := I.turned (t' := s.toks) (fun b ob hb e => (sb.2 b hb).trans e) f0 f1 f3 f4 f5
    obtain ⟨oi, e0, c, dd⟩ := id st'
    exact ⟨en.key, rfl, go_of (s := { s with heap := h' }) e0 c dd (by decide) ⟨.ref e.2.1, H, I1, hkey, ⟨rfl, e, he, rfl⟩, st', fun b hb => (hf b hb).1⟩⟩
  done := by
    intro X hP hw hK hc i pins s σ H E I hf st hg
    subst hP hw hK
    obtain ⟨hd, hi⟩ := hg
    obtain ⟨f0, f1, f2, f3, f4, f5⟩ := hf it (by simp)
    obtain ⟨hs, hgd, hx, es', ep', hdt, hsz, ent⟩ := frzN_at I hd
    obtain ⟨rfl, rfl⟩ := dict_ep hod hdt
    exact next_key_end (I.ok.hd hc) st hgd hdt hsz hi fun h' eb => ⟨rfl, I.turned (t' := s.toks) (fun b ob hb e => eb b ob hb e) f0 f1 f3 f4 f5⟩
  self := fun A i s Q E st h => by
    refine wpAny_pyIter_slot st.typeIs F.slot_dict_keyiterator_iter (wpAny_call_entry F.slot_dict_keyiterator_iter st.typeIs F.entry_dict_keyiterator_iter ?_ (F.args_dict_keyiterator_iter_1 _))
    show wpAny _ _ (ret (.ref it)) _ _ s
    exact wpAny_pure ⟨_, rfl, "dict_keyiterator", _, st.typeIs, F.slot_dict_keyiterator_next.lookup, h⟩
end
def iKeysN (w : World) (td : TE) : TI := fun σ H R => td σ H fun x H1 => ∃ d o xs, x = .ref d ∧ H1 d = some (.frz o (nDictO w d xs)) ∧ R (Itkn w d o xs) H1
theorem pi_keysN {X : Cx} {tg e : Expr} {td : TE} {w : World} (he : PE X e td) : PI X tg e (iKeysN w td) := by
  refine ⟨fun pins s σ H R I h => ?_⟩
  refine thn (he.run pins s σ H _ I h) fun u s1 ⟨x, H1, I1, rx, d, o, xs, ex, hd, q⟩ => ?_
  subst ex
  obtain rfl : u = Value.ref d := rx
  obtain ⟨hs, hgd, hx, es, ep, hdt, hsz, ent⟩ := frzN_at I1 hd
  refine iter_keys hs hgd hx hdt (pi_one (tk := s1.toks) I1 _ (turn_keysN _ hdt) ⟨_, Heap.get?_push_size _ rfl, rfl, ?_⟩ q)
  rw [hsz] <;> rfl
end L2
namespace DL
open PySem PySem.Spec PyProof.Rows L2
end DL
namespace DL
open PySem PySem.Spec PyProof.Rows L2
variable {G : Type}
/-! ### a dict at d may be locked or not: all reads stay -/
structure AlikeN (w : World) (d : Addr) (ys : List (NestedKey × Addr × Value)) (P P' : Hp) : Prop where
  off : ∀ a, a ≠ d → P' a = P a
  old : ∃ o, P d = some o ∧ IsDN w d o ys
  new : ∃ o, P' d = some o ∧ IsDN w d o ys
section
variable {K : PySem.W.Frag} {W : Wd G} {d : Addr} {ys : List (NestedKey × Addr × Value)} {w : World} {P P' : Hp}
theorem AlikeN.lst {a : Addr} {xs : List V} (h : AlikeN w d ys P P') (e : P a = some (.lst xs)) : P' a = some (.lst xs) := by
  by_cases z : a = d
  · subst z
    obtain ⟨o, e2, i⟩ := h.old
    rw [e] at e2; cases e2
    rcases i with i | ⟨_, i⟩ <;> cases i
  · rw [h.off a z]; exact e
theorem AlikeN.tup {a : Addr} {xs : List V} (h : AlikeN w d ys P P') (e : DY.TupP K P a xs) : DY.TupP K P' a xs := by
  rcases e with ⟨o, e, hd⟩ | e
  · refine .inl ⟨o, ?_, hd⟩
    by_cases z : a = d
    · subst z
      obtain ⟨o', e2, i⟩ := h.old
      rw [e] at e2; cases e2
      rcases i with i | ⟨_, i⟩ <;> cases i
    · rw [h.off a z]; exact e
  · exact .inr e
theorem nd_eq {w w' : World} {d : Addr} {xs ys : List (NestedKey × Addr × Value)} {o o2 : HO} (h1 : IsDN w d o ys) (h2 : IsDN w d o2 ys) (i : IsDN w' d o xs) : IsDN w' d o2 xs := by
  have e : nDictO w' d xs = nDictO w d ys := by
    rcases i with rfl | ⟨x, rfl⟩
    · rcases h1 with h1 | ⟨y, h1⟩
      · exact h1
      · cases h1
    · rcases h1 with h1 | ⟨y, h1⟩
      · cases h1
      · simp only [HO.frz.injEq] at h1; exact h1.2
  unfold IsDN at h2 ⊢
  rw [e]; exact h2
theorem AlikeN.dct {a : Addr} {o : HO} {kk : List (D × V)} (h : AlikeN w d ys P P') (e : P a = some o) (i : DObj o kk) : ∃ o', P' a = some o' ∧ DObj o' kk := by
  by_cases z : a = d
  · subst z
    obtain ⟨o1, e1, i1⟩ := h.old
    rw [e] at e1; cases e1
    obtain ⟨kvs, hk, rfl⟩ := i
    rcases i1 with rfl | ⟨_, rfl⟩ <;> rcases hk with hk | ⟨_, hk⟩ <;> cases hk
  · exact ⟨o, by rw [h.off a z]; exact e, i⟩
theorem AlikeN.dcn {w' : World} {a : Addr} {o : HO} {xs : List (NestedKey × Addr × Value)} (h : AlikeN w d ys P P') (e : P a = some o) (i : IsDN w' a o xs) : ∃ o', P' a = some o' ∧ IsDN w' a o' xs := by
  by_cases z : a = d
  · subst z
    obtain ⟨o1, e1, i1⟩ := h.old
    obtain ⟨o2, e2, i2⟩ := h.new
    rw [e] at e1; cases e1
    exact ⟨o2, e2, nd_eq i1 i2 i⟩
  · exact ⟨o, by rw [h.off a z]; exact e, i⟩
mutual
theorem AlikeN.rep (h : AlikeN w d ys P P') : ∀ (x : D) (v : V), Rep K W P x v → Rep K W P' x v
  | .non, v, r => r
  | .bl _, v, r => r
  | .int _, v, r => r
  | .str _, v, r => r
  | .tup xs, v, r => by
    simp only [Rep] at r ⊢
    obtain ⟨a, ys, e, t, z, r⟩ := r
    exact ⟨a, ys, e, h.tup t, z, AlikeN.reps h xs ys r⟩
  | .lst xs, v, r => by
    simp only [Rep] at r ⊢
    obtain ⟨a, ys, e, t, z, r⟩ := r
    exact ⟨a, ys, e, h.lst t, z, AlikeN.reps h xs ys r⟩
  | .dct kvs, v, r => by
    simp only [Rep] at r ⊢
    obtain ⟨a, o, kk, e, t, i, r⟩ := r
    obtain ⟨o', t', i'⟩ := h.dct t i
    exact ⟨a, o', kk, e, t', i', AlikeN.repk h kvs kk r⟩
  | .dcn kvs, v, r => by
    simp only [Rep] at r ⊢
    obtain ⟨a, o, xs, e, t, i, r⟩ := r
    obtain ⟨o', t', i'⟩ := h.dcn t i
    exact ⟨a, o', xs, e, t', i', AlikeN.repn h kvs xs r⟩
  | .obj _, v, r => r
theorem AlikeN.reps (h : AlikeN w d ys P P') : ∀ (xs : List D) (vs : List V), Reps K W P xs vs → Reps K W P' xs vs
  | [], vs, r => r
  | x :: xs, vs, r => by
    simp only [Reps] at r ⊢
    obtain ⟨v, r', e, h1, h2⟩ := r
    exact ⟨v, r', e, AlikeN.rep h x v h1, AlikeN.reps h xs r' h2⟩
theorem AlikeN.repk (h : AlikeN w d ys P P') : ∀ (xs : List (D × D)) (vs : List (D × V)), Repk K W P xs vs → Repk K W P' xs vs
  | [], vs, r => r
  | (k, x) :: xs, vs, r => by
    simp only [Repk] at r ⊢
    obtain ⟨v, r', e, h1, h2⟩ := r
    exact ⟨v, r', e, AlikeN.rep h x v h1, AlikeN.repk h xs r' h2⟩
theorem AlikeN.repn (h : AlikeN w d ys P P') : ∀ (ds : List (D × D)) (xs : List (NestedKey × Addr × Value)), Repn K W P ds xs → Repn K W P' ds xs
  | [], xs, r => r
  | (k, x) :: ds, xs, r => by
    simp only [Repn] at r ⊢
    obtain ⟨nk, b, u, v, r', e, h1, h2, h3, h4, h5, h6⟩ := r
    exact ⟨nk, b, u, v, r', e, h1, h2, AlikeN.rep h k _ h3, h4, AlikeN.rep h x v h5, AlikeN.repn h ds r' h6⟩
end
theorem AlikeN.own {a : Addr} {o : HO} {x : D} (h : AlikeN w d ys P P') (r : Own K W P a o x) : Own K W P' a o x := by
  cases x with
  | lst xs => obtain ⟨ys, e, z, r⟩ := r; exact ⟨ys, e, z, h.reps _ _ r⟩
  | dct kvs => obtain ⟨kk, i, r⟩ := r; exact ⟨kk, i, h.repk _ _ r⟩
  | dcn kvs => obtain ⟨xs, i, r⟩ := r; exact ⟨xs, i, h.repn _ _ r⟩
  | _ => exact r.elim
theorem AlikeN.sok {O : Addr → Option Tag} {H H' : Hp} {σ : L2.St} {t : Tag} {v : V} {s : S} (h : AlikeN w d ys P P') (hO : O d = none) (hH : ∀ a, a ≠ d → H' a = H a) (r : SOk K W P O H σ t v s) : SOk K W P' O H' σ t v s := by
  cases s with
  | sh x => exact h.rep _ _ r
  | ow x =>
    obtain ⟨a, o, e, eO, eH, q⟩ := r
    have hne : a ≠ d := fun z => by rw [z, hO] at eO; cases eO
    exact ⟨a, o, e, eO, by rw [hH a hne]; exact eH, h.own q⟩
  | «at» i => exact r
  | any => trivial
theorem AlikeN.tok {O : Addr → Option Tag} {H H' : Hp} {σ : L2.St} (h : AlikeN w d ys P P') (hO : O d = none) (hH : ∀ a, a ≠ d → H' a = H a) : ∀ {τ : List V} {ts : List S}, TOk K W P O H σ τ ts → TOk K W P' O H' σ τ ts
  | [], [], _ => trivial
  | v :: τ, s :: ts, r => ⟨h.sok hO hH r.1, AlikeN.tok h hO hH r.2⟩
  | [], _ :: _, r => r.elim
  | _ :: _, [], r => r.elim
end
section
variable {K : PySem.W.Frag} {W : Wd G} {P₀ H₀ P H : Hp} {O : Addr → Option Tag} {σ : L2.St} {st : Sl} {τ : List V} {ts : List S} {g : G} {d : Addr} {ys : List (NestedKey × Addr × Value)} {w : World} {od : Obj}
theorem RelB.lockN (R : RelB K W P₀ H₀ P O σ st τ ts H g) (e : P d = some (nDictO w d ys)) : RelB K W (upd P d (.frz od (nDictO w d ys))) (lockM d (.frz od (nDictO w d ys)) H₀) (upd P d (.frz od (nDictO w d ys))) O σ st τ ts (upd H d (.frz od (nDictO w d ys))) g := by
  have nO := R.noOwn e
  have nf : ¬ W.fp d := R.nfp d (by rw [e]; simp)
  have al : AlikeN w d ys P (upd P d (.frz od (nDictO w d ys))) := ⟨fun a h => upd_ne h, ⟨_, e, .inl rfl⟩, ⟨_, upd_same, .inr ⟨_, rfl⟩⟩⟩
  have hH : ∀ a, a ≠ d → upd H d (.frz od (nDictO w d ys)) a = H a := fun a h => upd_ne h
  refine ⟨fun a u z => ?_, fun a u z n => ?_, Sub.refl _, fun a z => .inl z, fun a z => ?_, fun a t z => ?_, W.loc g H _ R.wld fun b hb => upd_ne fun y => nf (y ▸ hb), R.len, fun i s z => ?_, al.tok nO hH R.temps⟩
  · by_cases h : a = d
    · subst h; rw [upd_same] at z ⊢; exact z
    · rw [upd_ne h] at z ⊢; exact R.sub a u z
  · by_cases h : a = d
    · subst h
      unfold lockM at z
      rw [if_pos rfl] at z
      obtain ⟨x, _, rfl⟩ := Option.map_eq_some_iff.mp z
      exact upd_same
    · rw [lockM_off h] at z; rw [upd_ne h]; exact R.base a u z n
  · by_cases h : a = d
    · subst h; exact nf
    · rw [upd_ne h] at z; exact R.nfp a z
  · have h : a ≠ d := fun y => by rw [y, nO] at z; cases z
    rw [upd_ne h, upd_ne h, lockM_off h]
    exact R.own a t z
  · obtain ⟨v, e1, e2, q⟩ := R.slots i s z
    exact ⟨v, e1, e2, al.sok nO hH q⟩
theorem RelB.unlockN {P' H' : Hp} {O' : Addr → Option Tag} {σ' : L2.St} {st' : Sl} {τ' : List V} {ts' : List S} {g' : G} (R : RelB K W P₀ H₀ P O σ st τ ts H g) (e : P d = some (nDictO w d ys)) (R' : RelB K W (upd P d (.frz od (nDictO w d ys))) (lockM d (.frz od (nDictO w d ys)) H₀) P' O' σ' st' τ' ts' H' g') :
    H' d = some (.frz od (nDictO w d ys)) ∧ RelB K W P₀ H₀ (upd P' d (nDictO w d ys)) O' σ' st' τ' ts' (upd H' d (nDictO w d ys)) g' := by
  have eP : P' d = some (.frz od (nDictO w d ys)) := R'.p0 d _ upd_same
  have eH : H d = some (nDictO w d ys) := R.sub d _ e
  have nO := R'.noOwn eP
  have nf : ¬ W.fp d := R.nfp d (by rw [e]; simp)
  have al : AlikeN w d ys P' (upd P' d (nDictO w d ys)) := ⟨fun a h => upd_ne h, ⟨_, eP, .inr ⟨_, rfl⟩⟩, ⟨_, upd_same, .inl rfl⟩⟩
  have hH : ∀ a, a ≠ d → upd H' d (nDictO w d ys) a = H' a := fun a h => upd_ne h
  refine ⟨R'.sub d _ eP, fun a u z => ?_, fun a u z n => ?_, fun a u z => ?_, fun a z => ?_, fun a z => ?_, fun a t z => ?_, W.loc g' H' _ R'.wld fun b hb => upd_ne fun y => nf (y ▸ hb), R'.len, fun i s z => ?_, al.tok nO hH R'.temps⟩
  · by_cases h : a = d
    · subst h; rw [upd_same] at z ⊢; exact z
    · rw [upd_ne h] at z ⊢; exact R'.sub a u z
  · by_cases h : a = d
    · subst h
      have := R.base a u z n
      rw [eH] at this; cases this
      exact upd_same
    · rw [upd_ne h]; exact R'.base a u (by rw [lockM_off h]; exact z) n
  · have z1 := R.p0 a u z
    by_cases h : a = d
    · subst h
      rw [e] at z1; cases z1
      exact upd_same
    · rw [upd_ne h]; exact R'.p0 a u (by rw [upd_ne h]; exact z1)
  · by_cases h : a = d
    · subst h; exact R.new a (by rw [e]; simp)
    · rw [upd_ne h] at z
      rcases R'.new a z with q | q
      · rw [upd_ne h] at q; exact R.new a q
      · rw [lockM_off h] at q; exact .inr q
  · by_cases h : a = d
    · subst h; exact nf
    · rw [upd_ne h] at z; exact R'.nfp a z
  · have h : a ≠ d := fun y => by rw [y, nO] at z; cases z
    obtain ⟨q1, q2, q3, q4⟩ := R'.own a t z
    rw [lockM_off h] at q2
    rw [upd_ne h, upd_ne h]
    exact ⟨q1, q2, q3, q4⟩
  · obtain ⟨v, e1, e2, q⟩ := R'.slots i s z
    exact ⟨v, e1, e2, al.sok nO hH q⟩
end
end DL
namespace DL
open PySem PySem.Spec PyProof.Rows L2
variable {G : Type}
/-! ### going through a dict with nested keys -/
theorem keys_repn {K : PySem.W.Frag} {W : Wd G} {P : Hp} : ∀ {kvs : List (D × D)} {xs : List (NestedKey × Addr × Value)}, Repn K W P kvs xs → ∀ (i : Nat) d, (kvs.map (·.1))[i]? = some d → ∃ e, xs[i]? = some e ∧ Rep K W P d (.ref e.2.1)
  | [], xs, h, i, d, hi => by simp at hi
  | (k, x) :: kvs, xs, h, i, d, hi => by
    simp only [Repn] at h
    obtain ⟨nk, b, u, v, r, rfl, h1, h2, h3, h4, h5, h6⟩ := h
    cases i with
    | zero => simp only [List.map_cons, List.getElem?_cons_zero, Option.some.injEq] at hi; subst hi; exact ⟨_, rfl, h3⟩
    | succ i => simp only [List.map_cons, List.getElem?_cons_succ] at hi; simpa using keys_repn h6 i d hi
theorem yields_keysN {K : PySem.W.Frag} {W : Wd G} {P₀ H₀ : Hp} {d : Addr} {od : Obj} {kvs : List (D × D)} {xs : List (NestedKey × Addr × Value)} {w : World} (e : P₀ d = some (.frz od (nDictO w d xs))) (rp : Repn K W P₀ kvs xs) (hz : kvs.length ≤ sizeLine) : Yields0 K W P₀ H₀ false (Itkn w d od xs) (kvs.map (·.1)) [] [] := by
  have hl := Repn.len rp
  refine ⟨by rw [List.length_map]; exact hz, rfl, (fun i h => by cases h), fun σ st ρ rs τ ts H g _ R => ?_⟩
  obtain ⟨P, O, R⟩ := R
  have eH : H d = some (.frz od (nDictO w d xs)) := R.sub d _ (R.p0 d _ e)
  refine ⟨fun i x hi => ?_, fun i hi => ⟨eH, by rw [List.length_map] at hi; omega⟩⟩
  have hlt : i < xs.length := by
    have := (List.getElem?_eq_some_iff.mp hi).1
    rw [List.length_map] at this; omega
  refine ⟨⟨eH, hlt⟩, fun y H' hy => ?_⟩
  obtain ⟨rfl, e1, h1, rfl⟩ := hy
  obtain ⟨e2, h2, h3⟩ := keys_repn rp i x hi
  rw [h1] at h2; cases h2
  exact ⟨P, O, R, by unfold RepF; rw [if_neg (by simp)]; exact Rep.mono R.p0 _ _ h3⟩
def isNSlot (i : Nat) (st : Sl) : Bool := match st[i]? with
  | some (some (.sh (.dcn _))) => true
  | some (some (.ow (.dcn _))) => true
  | _ => false
/-- a shared dict is at hand -/
theorem rep_dcn {K : PySem.W.Frag} {W : Wd G} {P : Hp} {kvs : List (D × D)} {v : V} (c : Rep K W P (.dcn kvs) v) : ∃ d xs, v = .ref d ∧ Repn K W P kvs xs ∧ (P d = some (nDictO W.pw d xs) ∨ ∃ od, P d = some (.frz od (nDictO W.pw d xs))) := by
  simp only [Rep] at c
  obtain ⟨d, o, xs, e, eP, hk, rp⟩ := c
  rcases hk with rfl | ⟨od, rfl⟩
  · exact ⟨d, xs, e, rp, .inl eP⟩
  · exact ⟨d, xs, e, rp, .inr ⟨od, eP⟩⟩
theorem RelB.lockedN {K : PySem.W.Frag} {W : Wd G} {P₀ H₀ P H : Hp} {O : Addr → Option Tag} {σ : L2.St} {st : Sl} {τ : List V} {ts : List S} {g : G} {d : Addr} {xs : List (NestedKey × Addr × Value)} {kvs : List (D × D)} {od : Obj} (_ : RelB K W P₀ H₀ P O σ st τ ts H g) (e : P d = some (nDictO W.pw d xs)) (rp : Repn K W P kvs xs) : Repn K W (upd P d (.frz od (nDictO W.pw d xs))) kvs xs := by
  have al : AlikeN W.pw d xs P (upd P d (.frz od (nDictO W.pw d xs))) := ⟨fun a h => upd_ne h, ⟨_, e, .inl rfl⟩, ⟨_, upd_same, .inr ⟨_, rfl⟩⟩⟩
  exact al.repn _ _ rp
/-- [e for p in x if t] -/
def mLcKN (i : Nat) (p : Pt) (vs : List Nat) (test : M G Bool) (elt : M G S) : M G S := fun st g => bnd (mTake (mVar i) st g) fun d st g => match d with
  | .dcn kvs => if kvs.length ≤ sizeLine then bnd (compM p vs test elt (kvs.map (·.1)) [] st g) fun acc st g => some (.ow (.lst acc), wipeS st vs, g) else none
  | _ => none
theorem ev_lcKN {K : PySem.W.Frag} {W : Wd G} {tg : TG} {tt : TT} {te : TE} {i : Nat} {p : Pt} {vs : List Nat} {test : M G Bool} {elt : M G S} {w : World} (hw : W.pw = w) (hg : EvG K W tg p) (ht : EvT K W tt test) (he : EvE K W te elt) (hv : ∀ i ∈ p.ix, i ∈ vs) :
    EvE K W (fun σ H Q => tLc (iKeysN w (tVar i)) tg tt te vs σ H Q ∨ tLockE (tLc (iKeysN w (tVar i)) tg tt te vs) σ H Q) (mLcKN i p vs test elt) := by
  subst hw
  intro P₀ H₀ σ st τ ts H g r st' g' Q R h q
  obtain ⟨dd, st1, g1, e1, h⟩ := bnd_eq h
  obtain ⟨x, st0, e3, e4⟩ := mTake_eq e1
  cases dd with
  | dcn kvs =>
    simp only at h
    split at h
    · rename_i hz
      obtain ⟨acc, st2, g2, e2, h⟩ := bnd_eq h
      simp only [Option.some.injEq, Prod.mk.injEq] at h; obtain ⟨rfl, rfl, rfl⟩ := h
      obtain ⟨v, ev, Rv⟩ : tVar i σ H (fun v H' => Rel K W P₀ H₀ σ st0 (v :: τ) (x :: ts) H' g1) := ev_var i _ _ _ _ _ _ _ _ _ _ _ _ R e3 fun v H' r => r
      obtain ⟨P, O, Rv⟩ := Rv
      obtain ⟨P, O, Rv⟩ := Rv.takeV e4
      have c : Rep K W P (.dcn kvs) v := Rv.temps.1
      obtain ⟨d, xs, rfl, rp, hk⟩ := rep_dcn c
      have R1 := Rv.pop
      rcases hk with eP | ⟨od, eP⟩
      · right
        refine ⟨d, nDictO W.pw d xs, R1.sub _ _ eP, trivial, fun od => ?_⟩
        have RL := R1.lockN (od := od) eP
        refine ⟨.ref d, ev, d, od, xs, rfl, upd_same, fun D0 h0 => ?_⟩
        refine lc_run0 (cv := []) (cells := []) (τ := τ) (ts := ts) (fun h => by cases h) (yields_keysN (P₀ := upd P d (.frz od (nDictO W.pw d xs))) (H₀ := lockM d (.frz od (nDictO W.pw d xs)) H₀) upd_same (R1.lockedN eP rp) hz) hg ht he hv h0 ⟨_, _, RL⟩ e2 fun H' R' => ?_
        obtain ⟨P', O', R'⟩ := R'
        obtain ⟨u1, u2⟩ := R1.unlockN eP R'
        exact ⟨u1, q _ _ ⟨_, _, u2⟩⟩
      · left
        refine ⟨.ref d, ev, d, od, xs, rfl, R1.sub _ _ eP, fun D0 h0 => ?_⟩
        refine lc_run0 (cv := []) (cells := []) (τ := τ) (ts := ts) (fun h => by cases h) (yields_keysN (P₀ := P) (H₀ := H₀) eP rp hz) hg ht he hv h0 ⟨_, _, R1.self⟩ e2 fun H' R' => ?_
        obtain ⟨P', O', R'⟩ := R'
        exact q _ _ ⟨_, _, R1.rebase R'⟩
    · cases h
  | _ => cases h
def mLcN (i : Nat) (p : Pt) (vs : List Nat) (test : M G Bool) (elt : M G S) : M G S := fun st g => if isNSlot i st = true then mLcKN i p vs test elt st g else mLcV i p vs test elt st g
section
variable {C : CF} {Fam : Wd G → Prop} {tg elt : Expr} {ifs : List Expr} {scope : Scope} {pos px : Pos} {x : Str} {body : List Stmt}
theorem d_lcN {p : Pt} {test : M G Bool} {f : M G S} (i : Nat) (own : List (Str × Nat)) (hg : DG (C.blk scope) tg p) (ht : DTs (C.blk scope) Fam ifs test) (he : DE (C.blk scope) Fam elt f) (hF : ∀ W, Fam W → W.pw = C.w)
    (hN : C.N[i]? = some x := by rfl) (hvis : ∀ j, Vis (C.X j).env.scope x := by intro _; first | exact Or.inl rfl | exact Or.inr (Or.inl rfl) | exact Or.inr (Or.inr rfl)) (hd : (x == ("__debug__" : Str)) = false := by decide) (hcd : (x == ("__classdict__" : Str)) = false := by decide)
    (ok : ∀ j, blkC C.N (C.X j).env.scope scope own = true := by intro _; decide +kernel) (hv : ∀ i ∈ p.ix, i ∈ own.map (·.2) := by decide) (hs : ∀ j y, foldedSetIterable (.Name x px) (C.X j).env y = pure y := by intro _ _; rfl) :
    DE C Fam (.ListComp elt [⟨tg, .Name x px, ifs, 0⟩] scope pos) (mLcN i p (own.map (·.2)) test f) := by
  obtain ⟨t1, p1, ev1⟩ := (d_lcV (C := C) (Fam := Fam) (pos := pos) i own hg ht he hN hvis hd hcd ok hv hs).ex
  obtain ⟨ta, pa, ea⟩ := hg.ex
  obtain ⟨tt, pt, et⟩ := ht.ex
  obtain ⟨te, pe, ee⟩ := he.ex
  have key : ∀ j, PE (C.X j) (.ListComp elt [⟨tg, .Name x px, ifs, 0⟩] scope pos) (tLc (iKeysN C.w (tVar i)) ta tt te (own.map (·.2))) := fun j =>
    pe_lc (own := own) (C.calm j) (C.nd' j) (pi_keysN (pe_var (i := i) (by rw [C.hN j]; exact hN) (hvis j) hd hcd)) (by rw [C.hN j]; exact blkOk_by (ok j)) (fun s H Ca cl fp => pa (j, s, H, Ca, cl, fp)) (fun s H Ca cl fp => pt (j, s, H, Ca, cl, fp)) (fun s H Ca cl fp => pe (j, s, H, Ca, cl, fp)) (hs j)
  exact ⟨_, fun j => PE.or (p1 j) (PE.or (key j) (pe_lock (key j))), fun W hW => ev_or (c := isNSlot i) (ev1 W hW) (ev_lcKN (hF W hW) (ea G W) (et W hW) (ee W hW) hv)⟩
end
end DL
namespace DX
open PySem PySem.Spec PyProof.Rows L2 DL
/-! ### k in d, d[k], d.get(k, x): d's keys are nested tuples -/
def NGet (w : World) (K : PySem.W.Frag) (H : Hp) (a : Addr) (y : V) (o : Option V) : Prop :=
  ∃ b xs k, y = .ref b ∧ NDt w H a xs ∧ (∀ x ∈ xs, NKy K H x.2.1 x.1) ∧ NKy K H b k ∧ RelO o ((atKey xs k).map (·.2))
section
variable {X : Cx} {pins : List (Addr × Obj)} {σ : L2.St} {H : Hp} {s : Shared} {a : Addr} {y d : V} {u r : Value} {o : Option V} {A : Around} {E : Value → Shared → Prop}
theorem NGet.typeIs (I : Inv X pins σ H s) (g : NGet X.w X.K H a y o) : s.TypeIs (.ref a) "dict" := by
  obtain ⟨b, xs, k, rfl, hd, hk, hb, l⟩ := g
  obtain ⟨h1, h2, dd⟩ := hd.of I hk
  exact dd.typeIs
end
end DX
namespace DL
open PySem PySem.Spec PyProof.Rows L2
end DL
namespace DL
open PySem PySem.Spec PyProof.Rows L2
variable {G : Type}
/-! ### behind a statement a slot's own thing is shared -/
def shrSlot (i : Nat) (st : Sl) : Sl := match st[i]? with
  | some (some (.ow d)) => st.set i (some (.sh d))
  | _ => st
theorem Rel.shrSlot {K : PySem.W.Frag} {W : Wd G} {P₀ H₀ H : Hp} {σ : L2.St} {st : Sl} {τ : List V} {ts : List S} {g : G} (i : Nat) (R : Rel K W P₀ H₀ σ st τ ts H g) : Rel K W P₀ H₀ σ (shrSlot i st) τ ts H g := by
  unfold DL.shrSlot
  split
  · rename_i d e
    obtain ⟨P, O, R⟩ := R
    obtain ⟨v, e1, _, _⟩ := R.slot e
    have R1 : RelB K W P₀ H₀ P O σ st (v :: τ) (.at i :: ts) H g := R.pushS e1
    obtain ⟨P', O', R2⟩ := R1.takeV (d := d) (st' := st.set i (some (.sh d))) (by show (match st[i]? with | some (some (.sh d)) => some (d, st) | some (some (.ow d)) => some (d, st.set i (some (.sh d))) | _ => none) = _; rw [e])
    exact ⟨P', O', R2.pop⟩
  · exact R
def mAfter (i : Nat) (f : M G Fl) : M G Fl := fun st g => bnd (f st g) fun fl st g => match fl with
  | .nx => some (.nx, shrSlot i st, g)
  | fl => some (fl, st, g)
theorem ev_after {K : PySem.W.Frag} {W : Wd G} {t : TS} {f : M G Fl} (i : Nat) (h : EvS K W t f) : EvS K W t (mAfter i f) := by
  intro P₀ H₀ σ st τ ts H g fl st' g' E n R e q
  obtain ⟨fl1, st1, g1, e1, e⟩ := bnd_eq e
  cases fl1 with
  | nx =>
    simp only [Option.some.injEq, Prod.mk.injEq] at e; obtain ⟨rfl, rfl, rfl⟩ := e
    exact h _ _ _ _ _ _ _ _ _ _ _ _ n R e1 fun σ' H' R' => q σ' H' (R'.shrSlot i)
  | bk => simp only [Option.some.injEq, Prod.mk.injEq] at e; obtain ⟨rfl, rfl, rfl⟩ := e; exact h _ _ _ _ _ _ _ _ _ _ _ _ n R e1 q
  | ct => simp only [Option.some.injEq, Prod.mk.injEq] at e; obtain ⟨rfl, rfl, rfl⟩ := e; exact h _ _ _ _ _ _ _ _ _ _ _ _ n R e1 q
  | rt d => simp only [Option.some.injEq, Prod.mk.injEq] at e; obtain ⟨rfl, rfl, rfl⟩ := e; exact h _ _ _ _ _ _ _ _ _ _ _ _ n R e1 q
theorem DS.after {C : CF} {Fam : Wd G → Prop} {s : Stmt} {f : M G Fl} (i : Nat) (h : DS C Fam s f) : DS C Fam s (mAfter i f) :=
  let ⟨t, p, e⟩ := h.ex
  ⟨t, p, fun W hW => ev_after i (e W hW)⟩
end DL
namespace DL
open PySem PySem.Spec PyProof.Rows L2
/-! ### the next number -/
noncomputable def B__law_next : M Dk Fl := (mSeq (mWhile (mTest (mOpW rdD opNe (mOpW rdD opIxL (mVar 0) (mC (.int 0))) (mLst mNil))) (mSeq (mSet 5 (mOpW rdD opIxL (mOpW rdD opIxL (mVar 0) (mC (.int 0))) (mC (.int 0)))) (mSeq (mIf (mTest (mOp (opCmp .Gt) (mVar 5) (mC (.int 0)))) (mSeq (mPutW (mOpW rdD opIxL (mVar 0) (mC (.int 0))) (mC (.int 0)) (mOp opFdiv (mVar 5) (mVar 1))) (mRet (mOp opMod (mUn opInt (mVar 5)) (mVar 1)))) mNext) (mDrop (mPopW (mOpW rdD opIxL (mVar 0) (mC (.int 0)))))))) (mSeq (mPutW (mVar 0) (mC (.int 2)) (mOp opAdd (mOpW rdD opIxL (mVar 0) (mC (.int 2))) (mC (.int 1)))) (mSeq (mSet 2 (mOpW rdD opIxL (mVar 0) (mC (.int 2)))) (mSeq (mSet 3 (mOp opMod (mUn opInt (mOpW rdD opIxL (mOpW rdD opIxL (mVar 0) (mC (.int 1))) (mOp opMod (mUn opInt (mVar 2)) (mUnW rdD opLen (mOpW rdD opIxL (mVar 0) (mC (.int 1))))))) (mC (.int 2147483629)))) (mSeq (mSet 4 (mOp opMod (mUn opInt (mOp opAdd (mOp opAdd (mOp opMul (mVar 3) (mOp opAdd (mC (.int 50331)) (mOp opMul (mC (.int 68111)) (mVar 2)))) (mOp opMul (mOp opMul (mC (.int 41287)) (mVar 2)) (mVar 2))) (mC (.int 19)))) (mC (.int 2147483587)))) (mRet (mOp opMod (mOp opFdiv (mOp opMod (mUn opInt (mOp opMul (mVar 4) (mVar 4))) (mC (.int 2147483579))) (mC (.int 16))) (mVar 1))))))))
noncomputable def F__law_next : Fn Dk := mFn 2 6 B__law_next
/-- n draws more are let -/
structure Ok (n : Nat) (g : Dk) : Prop where
  ne : g.cells ≠ []
  lo : 0 ≤ g.turn
  hi : g.turn + n ≤ 2 ^ 64
theorem Ok.mono {n m : Nat} {g : Dk} (h : Ok n g) (hm : m ≤ n) : Ok m g := ⟨h.ne, h.lo, by have := h.hi; omega⟩
theorem log2_lt {i : Int} {k : Nat} (h0 : 0 ≤ i) (h : i < 2 ^ k) (hk : 0 < k) : i.natAbs.log2 < k := by
  by_cases e : i = 0
  · subst e; simpa using hk
  · refine (Nat.log2_lt (by omega)).mpr ?_
    have : (i.natAbs : Int) < 2 ^ k := by omega
    exact_mod_cast this
/-- what is drawn -/
def mixed (m : Int) (cells : List Int) (t : Int) : Int :=
  let a := ((atI cells (t % (cells.length : Int))).getD 0) % 2147483629
  let b := (a * (50331 + 68111 * t) + 41287 * t * t + 19) % 2147483587
  (b * b) % 2147483579 / 16 % m
def drawnB (m : Int) (cells : List Int) (turn : Int) : List Int → Int × Dk
  | [] => (mixed m cells (turn + 1), ⟨[], cells, turn + 1⟩)
  | x :: r => if 0 < x then (x % m, ⟨x / m :: r, cells, turn⟩) else drawnB m cells turn r
theorem pls_ints : ∀ l : List Int, D.pls (l.map D.int) = true
  | [] => rfl
  | x :: l => by simp [D.pls, D.pl, pls_ints l]
theorem eqv_ints_nil : ∀ l : List Int, PyData.eqv (D.py (.lst (l.map D.int))) (D.py (.lst [])) = l.isEmpty
  | [] => by simp [D.py, D.pys, PyData.eqv, PyData.eqvAll]
  | x :: l => by simp [D.py, D.pys, PyData.eqv, PyData.eqvAll]
theorem ne_big (l : List Int) : opNe (.lst (l.map D.int)) (.lst []) = some (.sh (.bl (!l.isEmpty))) := by
  have h : okEq (.lst (l.map D.int)) (.lst []) = true := by
    simp only [okEq, D.pl, pls_ints, D.pls, Bool.and_true, Bool.true_and, decide_eq_true_eq]
    refine Nat.le_trans (Nat.min_le_right _ _) ?_
    simp [D.py, D.pys, PyData.depth, PyData.depthAll]
  unfold opNe
  rw [if_pos h]
  unfold eqD
  rw [eqv_ints_nil]
theorem atI_zero {α : Type} (x : α) (l : List α) : atI (x :: l) 0 = some x := by simp [atI, ixN]
theorem sz1 : (0 : Nat) ≤ sizeLine := Nat.zero_le _
abbrev nC : M Dk Bool := (mTest (mOpW rdD opNe (mOpW rdD opIxL (mVar 0) (mC (.int 0))) (mLst mNil)))
theorem nC_eq (m : Int) (x2 x3 x4 x5 : Option S) (g : Dk) : nC [some (.sh (.obj 0)), some (.sh (.int m)), x2, x3, x4, x5] g = some (!g.big.isEmpty, [some (.sh (.obj 0)), some (.sh (.int m)), x2, x3, x4, x5], g) := by
  simp only [nC, mTest, mOpW, mVar, mC, mLst, mNil, List.getElem?_cons_zero, bnd_some, peekW, rdD, Option.bind_some, opIxL, atI_zero, Option.map_some, List.length_nil, sz1, if_true, peek, ne_big]
abbrev nB : M Dk Fl := (mSeq (mSet 5 (mOpW rdD opIxL (mOpW rdD opIxL (mVar 0) (mC (.int 0))) (mC (.int 0)))) (mSeq (mIf (mTest (mOp (opCmp .Gt) (mVar 5) (mC (.int 0)))) (mSeq (mPutW (mOpW rdD opIxL (mVar 0) (mC (.int 0))) (mC (.int 0)) (mOp opFdiv (mVar 5) (mVar 1))) (mRet (mOp opMod (mUn opInt (mVar 5)) (mVar 1)))) mNext) (mDrop (mPopW (mOpW rdD opIxL (mVar 0) (mC (.int 0)))))))
theorem cmp_gt (a b : Int) : opCmp .Gt (.int a) (.int b) = some (.sh (.bl (decide (b < a)))) := by
  unfold opCmp
  rw [if_pos (okCmp_int a b)]
  simp only [cmpD, D.py, ltD_int]
theorem nB_eq (m : Int) (hm : 0 < m) (hl : m.natAbs.log2 < 9000) (x2 x3 x4 x5 : Option S) (x : Int) (r cells : List Int) (turn : Int) : nB [some (.sh (.obj 0)), some (.sh (.int m)), x2, x3, x4, x5] ⟨x :: r, cells, turn⟩ =
    if 0 < x then some (.rt (.int (x % m)), [some (.sh (.obj 0)), some (.sh (.int m)), x2, x3, x4, some (.sh (.int x))], ⟨x / m :: r, cells, turn⟩) else some (.nx, [some (.sh (.obj 0)), some (.sh (.int m)), x2, x3, x4, some (.sh (.int x))], ⟨r, cells, turn⟩) := by
  have hd : okDiv x m = true := by simp [okDiv, hm, hl]
  by_cases h : 0 < x
  · simp [nB, mSeq, mSet, mIf, mTest, mOp, mUn, mRet, mTake, mPutW, mOpW, mVar, mC, peekW, peek, take, rdD, opIxL, atI_zero, cmp_gt, wput, opI2, opInt, hd, hm, h]
  · simp [nB, mSeq, mSet, mIf, mTest, mOp, mUn, mRet, mTake, mDrop, mNext, mPopW, mOpW, mVar, mC, peekW, peek, take, rdD, opIxL, atI_zero, cmp_gt, h]
theorem loop_eq (m : Int) (hm : 0 < m) (hl : m.natAbs.log2 < 9000) (x2 x3 x4 : Option S) (cells : List Int) (turn : Int) : ∀ (big : List Int) (x5 : Option S),
    (∃ st, mWhile nC nB [some (.sh (.obj 0)), some (.sh (.int m)), x2, x3, x4, x5] ⟨big, cells, turn⟩ = some (.rt (.int (drawnB m cells turn big).1), st, (drawnB m cells turn big).2)) ∨
    ∃ y5, mWhile nC nB [some (.sh (.obj 0)), some (.sh (.int m)), x2, x3, x4, x5] ⟨big, cells, turn⟩ = some (.nx, [some (.sh (.obj 0)), some (.sh (.int m)), x2, x3, x4, y5], ⟨[], cells, turn⟩) ∧ drawnB m cells turn big = drawnB m cells turn []
  | [], x5 => by
    refine .inr ⟨x5, mWhile_of (n := 1) ?_, rfl⟩
    unfold whileM
    rw [nC_eq, bnd_some]
    rfl
  | x :: r, x5 => by
    by_cases h : 0 < x
    · left
      refine ⟨[some (.sh (.obj 0)), some (.sh (.int m)), x2, x3, x4, some (.sh (.int x))], mWhile_of (n := 1) ?_⟩
      · unfold whileM
        rw [nC_eq, bnd_some]
        simp only [List.isEmpty_cons, Bool.not_false, if_true]
        rw [nB_eq m hm hl, if_pos h, bnd_some]
        simp only [drawnB, if_pos h]
    · have ih := loop_eq m hm hl x2 x3 x4 cells turn r (some (.sh (.int x)))
      have step : ∀ res, mWhile nC nB [some (.sh (.obj 0)), some (.sh (.int m)), x2, x3, x4, some (.sh (.int x))] ⟨r, cells, turn⟩ = some res → mWhile nC nB [some (.sh (.obj 0)), some (.sh (.int m)), x2, x3, x4, x5] ⟨x :: r, cells, turn⟩ = some res := fun res e => by
        obtain ⟨n, e⟩ := mWhile_eq e
        refine mWhile_of (n := n + 1) ?_
        unfold whileM
        rw [nC_eq, bnd_some]
        simp only [List.isEmpty_cons, Bool.not_false, if_true]
        rw [nB_eq m hm hl, if_neg h, bnd_some]
        exact e
      have ed : drawnB m cells turn (x :: r) = drawnB m cells turn r := by simp only [drawnB, if_neg h]
      rw [ed]
      rcases ih with ⟨st, e⟩ | ⟨y5, e, e2⟩
      · exact .inl ⟨st, step _ e⟩
      · exact .inr ⟨y5, step _ e, e2⟩
theorem okMul_of {a b : Int} {p q : Nat} (ha : 0 ≤ a) (hb : 0 ≤ b) (h1 : a < 2 ^ p) (h2 : b < 2 ^ q) (hp : 0 < p) (hq : 0 < q) (hs : p + q ≤ 1000000) : okMul a b = true := by
  have := log2_lt ha h1 hp
  have := log2_lt hb h2 hq
  simp only [okMul, decide_eq_true_eq]; omega
abbrev nR : M Dk Fl := (mSeq (mPutW (mVar 0) (mC (.int 2)) (mOp opAdd (mOpW rdD opIxL (mVar 0) (mC (.int 2))) (mC (.int 1)))) (mSeq (mSet 2 (mOpW rdD opIxL (mVar 0) (mC (.int 2)))) (mSeq (mSet 3 (mOp opMod (mUn opInt (mOpW rdD opIxL (mOpW rdD opIxL (mVar 0) (mC (.int 1))) (mOp opMod (mUn opInt (mVar 2)) (mUnW rdD opLen (mOpW rdD opIxL (mVar 0) (mC (.int 1))))))) (mC (.int 2147483629)))) (mSeq (mSet 4 (mOp opMod (mUn opInt (mOp opAdd (mOp opAdd (mOp opMul (mVar 3) (mOp opAdd (mC (.int 50331)) (mOp opMul (mC (.int 68111)) (mVar 2)))) (mOp opMul (mOp opMul (mC (.int 41287)) (mVar 2)) (mVar 2))) (mC (.int 19)))) (mC (.int 2147483587)))) (mRet (mOp opMod (mOp opFdiv (mOp opMod (mUn opInt (mOp opMul (mVar 4) (mVar 4))) (mC (.int 2147483579))) (mC (.int 16))) (mVar 1)))))))
theorem atI_map {l : List Int} {i x : Int} (h : atI l i = some x) : atI (l.map D.int) i = some (.int x) := by
  unfold atI at h ⊢
  rw [List.length_map]
  cases e : ixN l.length i with
  | none => rw [e] at h; cases h
  | some j =>
    rw [e] at h
    show (l.map D.int)[j]? = _
    rw [List.getElem?_map]
    have h' : l[j]? = some x := h
    rw [h']; rfl
theorem atI_some {α : Type} {l : List α} {i : Int} (h0 : 0 ≤ i) (h1 : i < l.length) : ∃ x, atI l i = some x ∧ l[i.toNat]? = some x := by
  have hlt : i.toNat < l.length := by omega
  have e : ixN l.length i = some i.toNat := by
    unfold ixN
    rw [if_pos h0, if_pos h1]
  refine ⟨l[i.toNat], ?_, List.getElem?_eq_getElem hlt⟩
  unfold atI
  rw [e]
  exact List.getElem?_eq_getElem hlt
theorem nR_eq (m : Int) (hm : 0 < m) (x2 x3 x4 x5 : Option S) (big cells : List Int) (turn : Int) (hc : cells ≠ []) (h0 : 0 ≤ turn) (h1 : turn + 1 ≤ 2 ^ 64) :
    ∃ st, nR [some (.sh (.obj 0)), some (.sh (.int m)), x2, x3, x4, x5] ⟨big, cells, turn⟩ = some (.rt (.int (mixed m cells (turn + 1))), st, ⟨big, cells, turn + 1⟩) := by
  have hlen : 0 < (cells.length : Int) := by
    have : cells.length ≠ 0 := fun e => hc (List.length_eq_zero_iff.mp e)
    omega
  obtain ⟨x, ex, _⟩ := atI_some (l := cells) (i := (turn + 1) % (cells.length : Int)) (Int.emod_nonneg _ (by omega)) (Int.emod_lt_of_pos _ hlen)
  have ex2 := atI_map ex
  have ha0 : 0 ≤ x % 2147483629 := Int.emod_nonneg _ (by decide)
  have ha1 : x % 2147483629 < 2 ^ 31 := by have := Int.emod_lt_of_pos x (b := 2147483629) (by decide); omega
  have k1 : okMul 68111 (turn + 1) = true := okMul_of (p := 17) (q := 65) (by decide) (by omega) (by decide) (by omega) (by decide) (by decide) (by decide)
  have k2 : okMul (x % 2147483629) (50331 + 68111 * (turn + 1)) = true := okMul_of (p := 31) (q := 83) ha0 (by omega) ha1 (by omega) (by decide) (by decide) (by decide)
  have k3 : okMul 41287 (turn + 1) = true := okMul_of (p := 16) (q := 65) (by decide) (by omega) (by decide) (by omega) (by decide) (by decide) (by decide)
  have k4 : okMul (41287 * (turn + 1)) (turn + 1) = true := okMul_of (p := 82) (q := 65) (by omega) (by omega) (by omega) (by omega) (by decide) (by decide) (by decide)
  have hb0 : 0 ≤ (x % 2147483629 * (50331 + 68111 * (turn + 1)) + 41287 * (turn + 1) * (turn + 1) + 19) % 2147483587 := Int.emod_nonneg _ (by decide)
  have hb1 : (x % 2147483629 * (50331 + 68111 * (turn + 1)) + 41287 * (turn + 1) * (turn + 1) + 19) % 2147483587 < 2 ^ 31 := by
    have := Int.emod_lt_of_pos (x % 2147483629 * (50331 + 68111 * (turn + 1)) + 41287 * (turn + 1) * (turn + 1) + 19) (b := 2147483587) (by decide); omega
  have k5 := okMul_of (p := 31) (q := 31) hb0 hb0 hb1 hb1 (by decide) (by decide) (by decide)
  have a2 : ∀ (a b c : D), atI [a, b, c] 2 = some c := fun a b c => by simp [atI, ixN]
  have a1 : ∀ (a b c : D), atI [a, b, c] 1 = some b := fun a b c => by simp [atI, ixN]
  have kd : ∀ i, okDiv i 16 = true := fun i => by simp [okDiv]; decide
  have lt : ¬ ((cells.length : Int) ≤ 0) := by omega
  refine ⟨[some (.sh (.obj 0)), some (.sh (.int m)), some (.sh (.int (turn + 1))), some (.sh (.int (x % 2147483629))), some (.sh (.int ((x % 2147483629 * (50331 + 68111 * (turn + 1)) + 41287 * (turn + 1) * (turn + 1) + 19) % 2147483587))), x5], ?_⟩
  · simp only [nR, mSeq, mSet, mIf, mTest, mOp, mUn, mUnW, mRet, mTake, mPutW, mOpW, mVar, mC, peekW, peek, take, rdD, opIxL, opLen, a2, a1, wput, opAdd, opMul, opI2, opInt, bnd_some, Option.bind_some, Option.map_some, List.getElem?_cons_zero, List.getElem?_cons_succ, List.set_cons_zero, List.set_cons_succ, List.length_cons, List.length_nil, hm, List.length_map, hlen, decide_true, if_true, ex2, k1, k2, k3, k4, k5, kd, mixed, ex, Option.getD_some,
      show (5 : Nat) < 0 + 1 + 1 + 1 + 1 + 1 + 1 by decide, show (2 : Nat) < 0 + 1 + 1 + 1 + 1 + 1 + 1 by decide, show (3 : Nat) < 0 + 1 + 1 + 1 + 1 + 1 + 1 by decide, show (4 : Nat) < 0 + 1 + 1 + 1 + 1 + 1 + 1 by decide, show (0 : Int) < 2147483629 by decide, show (0 : Int) < 2147483587 by decide, show (0 : Int) < 2147483579 by decide]
theorem mFn_rt {G : Type} {n m : Nat} {b : M G Fl} {ds : List D} {g g' : G} {d : D} {st : Sl} (hl : ds.length = n) (h : b (ds.map (fun d => some (.sh d)) ++ List.replicate (m - n) none) g = some (.rt d, st, g')) : mFn n m b ds g = some (d, g') := by
  unfold mFn
  rw [if_pos hl, h]
/-- the next number, below m -/
theorem next_eq (m : Int) (hm : 0 < m) (hl : m.natAbs.log2 < 9000) (g : Dk) (hc : g.cells ≠ []) (h0 : 0 ≤ g.turn) (h1 : g.turn + 1 ≤ 2 ^ 64) : F__law_next [.obj 0, .int m] g = some (.int (drawnB m g.cells g.turn g.big).1, (drawnB m g.cells g.turn g.big).2) := by
  obtain ⟨big, cells, turn⟩ := g
  show mFn 2 6 (mSeq (mWhile nC nB) nR) _ _ = _
  rcases loop_eq m hm hl none none none cells turn big none with ⟨st, e⟩ | ⟨y5, e, e2⟩
  · refine mFn_rt (st := st) rfl ?_
    show mSeq (mWhile nC nB) nR [some (.sh (.obj 0)), some (.sh (.int m)), none, none, none, none] _ = _
    unfold mSeq
    rw [e]; rfl
  · obtain ⟨st, e3⟩ := nR_eq m hm none none none y5 [] cells turn hc h0 h1
    refine mFn_rt (st := st) rfl ?_
    show mSeq (mWhile nC nB) nR [some (.sh (.obj 0)), some (.sh (.int m)), none, none, none, none] _ = _
    rw [mSeq, e, e2]
    exact e3
theorem drawnB_range {m : Int} (hm : 0 < m) (cells : List Int) (turn : Int) : ∀ big, 0 ≤ (drawnB m cells turn big).1 ∧ (drawnB m cells turn big).1 < m ∧ (drawnB m cells turn big).2.cells = cells ∧ turn ≤ (drawnB m cells turn big).2.turn ∧ (drawnB m cells turn big).2.turn ≤ turn + 1
  | [] => ⟨Int.emod_nonneg _ (by omega), Int.emod_lt_of_pos _ hm, rfl, by simp only [drawnB]; omega, by simp only [drawnB]; omega⟩
  | x :: r => by
    simp only [drawnB]
    split
    · exact ⟨Int.emod_nonneg _ (by omega), Int.emod_lt_of_pos _ hm, rfl, by simp only; omega, by simp only; omega⟩
    · exact drawnB_range hm cells turn r
theorem next_ok {n : Nat} {m : Int} {g : Dk} (h : Ok (n + 1) g) (hm : 0 < m) (hl : m ≤ 2 ^ 63) : ∃ r g', F__law_next [.obj 0, .int m] g = some (.int r, g') ∧ 0 ≤ r ∧ r < m ∧ Ok n g' := by
  have hlog : m.natAbs.log2 < 9000 := Nat.lt_of_lt_of_le (log2_lt (k := 64) (by omega) (by omega) (by decide)) (by decide)
  obtain ⟨h1, h2, h3, h4, h5⟩ := drawnB_range hm g.cells g.turn g.big
  refine ⟨_, _, next_eq m hm hlog g h.ne h.lo (by have := h.hi; omega), h1, h2, ⟨by rw [h3]; exact h.ne, by have := h.lo; omega, by have := h.hi; omega⟩⟩
theorem deck0_ok (ns : List Int) : Ok (2 ^ 63) (deck0 ns) := ⟨by simp [deck0], by simp [deck0], by simp [deck0]⟩
end DL
namespace DL
open PySem PySem.Spec PyProof.Rows L2
noncomputable def B__law_one : M Dk Fl := (mRet (mOp opIx (mVar 1) (mCall F__law_next (mCons (mVar 0) (mCons (mUn opLen (mVar 1)) mNil)))))
noncomputable def F__law_one : Fn Dk := mFn 2 2 B__law_one
noncomputable def B__law_dials : M Dk Fl := (mSeq (mSet 1 (mLst (mCons (mC (.str "a")) (mCons (mC (.str "b")) (mCons (mC (.str "buyer")) (mCons (mC (.str "c")) (mCons (mC (.str "day")) (mCons (mC (.str "item")) (mCons (mC (.str "shop")) (mCons (mC (.str "thin")) mNil)))))))))) (mSeq (mSet 2 (mSl (mUn opSS (mLc (srcRange1 (mOp opAdd (mC (.int 1)) (mCall F__law_next (mCons (mVar 0) (mCons (mC (.int 6)) mNil))))) (.nm 5) [5] mYes (mCall F__law_one (mCons (mVar 0) (mCons (mVar 1) mNil))))) mNoP (mPart (mC (.int 5))))) (mSeq (mSet 3 (mOp opIx (mLst (mCons (mLst (mCons (mC (.str "man")) (mCons (mC (.str "thing")) (mCons (mC (.str "man")) mNil)))) (mCons (mLst (mCons (mC (.str "man")) mNil)) (mCons (mLst (mCons (mC (.str "man")) (mCons (mC (.str "thing")) (mCons (mC (.str "place")) (mCons (mC (.str "day")) mNil))))) mNil)))) (mCall F__law_next (mCons (mVar 0) (mCons (mC (.int 3)) mNil))))) (mRet (mUn opTuple (mLc (srcSeq (mVar 2)) (.nm 4) [4] mYes (mTup (mCons (mVar 4) (mCons (mCall F__law_one (mCons (mVar 0) (mCons (mVar 3) mNil))) mNil)))))))))
noncomputable def F__law_dials : Fn Dk := mFn 1 6 B__law_dials
noncomputable def B__law_scheme : M Dk Fl := (mSeq (mPar 3 4 (mCall F__law_dials (mCons (mVar 0) mNil)) mDNew) (mSeq (mSet 1 (mLc (srcSeq (mVar 3)) (.tp [(.nm 6), (.nm 7)]) [6, 7] mYes (mVar 6))) (mSeq (mFor (srcRange1 (mOp opAdd (mC (.int 1)) (mCall F__law_next (mCons (mVar 0) (mCons (mC (.int 4)) mNil))))) (.nm 2) (mSeq (mSet 5 (mSl (mUn opSS (mLc (srcRange1 (mOp opAdd (mC (.int 1)) (mCall F__law_next (mCons (mVar 0) (mCons (mC (.int 4)) mNil))))) (.nm 9) [9] mYes (mCall F__law_one (mCons (mVar 0) (mCons (mVar 1) mNil))))) mNoP (mPart (mC (.int 3))))) (mDPut 4 (mCall F__law_one (mCons (mVar 0) (mCons (mLst (mCons (mC (.str "all")) (mCons (mC (.str "bought")) (mCons (mC (.str "had")) (mCons (mC (.str "m")) (mCons (mC (.str "sold")) (mCons (mC (.str "t")) mNil))))))) mNil))) (mUn opTuple (mVar 5))))) (mRet (mTup (mCons (mVar 3) (mCons (mUn opTuple (mLc (srcSeq (mUn opSortD (mVar 4))) (.nm 8) [8] mYes (mTup (mCons (mVar 8) (mCons (mOp opIx (mVar 4) (mVar 8)) mNil))))) mNil)))))))
noncomputable def F__law_scheme : Fn Dk := mFn 1 10 B__law_scheme
noncomputable def B__law_columns : M Dk Fl := (mSeq (mSet 2 (mLst mNil)) (mSeq (mFor (srcSeq (mOp opIx (mVar 0) (mC (.int 1)))) (.tp [(.nm 3), (.nm 4)]) (mIf (mTest (mOp (opIn false) (mVar 3) (mVar 1))) (mDrop (mMethL 2 opExt (mVar 4))) mNext)) (mRet (mUn opTuple (mUn opSS (mVar 2))))))
noncomputable def F__law_columns : Fn Dk := mFn 2 5 B__law_columns
noncomputable def B_columns_in : M Dk Fl := (mRet (mOp opIx (mUn opDict (mOp opIx (mVar 0) (mC (.int 1)))) (mVar 1)))
noncomputable def F_columns_in : Fn Dk := mFn 2 2 B_columns_in
noncomputable def B_columns_of : M Dk Fl := (mSeq (mSet 2 (mLst mNil)) (mSeq (mFor (srcSeq (mVar 1)) (.nm 3) (mDrop (mMethL 2 opExt (mCall F_columns_in (mCons (mVar 0) (mCons (mVar 3) mNil)))))) (mRet (mUn opTuple (mUn opSS (mVar 2))))))
noncomputable def F_columns_of : Fn Dk := mFn 2 4 B_columns_of
theorem getI {α : Type} {l : List α} {i : Int} {x : α} (h : atI l i = some x) : x ∈ l := by
  unfold atI at h
  obtain ⟨j, _, e⟩ := Option.bind_eq_some_iff.mp h
  exact List.mem_of_getElem? e
theorem one_lst {n : Nat} {ds : List D} {g : Dk} (h : Ok (n + 1) g) (hd : ds ≠ []) (hz : ds.length ≤ 1000) : ∃ d g', F__law_one [.obj 0, .lst ds] g = some (d, g') ∧ d ∈ ds ∧ Ok n g' := by
  have hp : 0 < ds.length := List.length_pos_iff.mpr hd
  obtain ⟨r, g', e, h0, h1, ok⟩ := next_ok (m := (ds.length : Int)) h (by omega) (by omega)
  obtain ⟨d, e2, _⟩ := atI_some (l := ds) h0 h1
  refine ⟨d, g', mFn_rt (st := [some (.sh (.obj 0)), some (.sh (.lst ds))]) rfl ?_, getI e2, ok⟩
  simp only [B__law_one, mRet, mTake, mOp, mUn, mCall, mCons, mNil, mVar, List.map_cons, List.map_nil, List.cons_append, List.nil_append, List.replicate, List.getElem?_cons_zero, List.getElem?_cons_succ, bnd_some, peek, take, Option.bind_some, Option.map_some, opLen, e, opIx, e2, Nat.sub_self, List.replicate_zero]
/-- a slot with a list, whoever has it -/
def Has1 (st : Sl) (j : Nat) (names : List D) : Prop := st[j]? = some (some (.sh (.lst names))) ∨ st[j]? = some (some (.ow (.lst names)))
theorem take_has {st : Sl} {j : Nat} {names : List D} {g : Dk} (h : Has1 st j names) : mTake (mVar j) st g = some (.lst names, st.set j (some (.sh (.lst names))), g) := by
  have hl : j < st.length := by rcases h with h | h <;> exact (List.getElem?_eq_some_iff.mp h).1
  rcases h with h | h
  · have e : st.set j (some (.sh (.lst names))) = st := by
      apply List.ext_getElem?
      intro i
      by_cases hi : j = i
      · subst hi; rw [List.getElem?_set_self hl, h]
      · rw [List.getElem?_set_ne hi]
    simp only [mTake, mVar, h, bnd_some, take, Option.map_some, e]
  · simp only [mTake, mVar, h, bnd_some, take, Option.map_some]
theorem draws {st0 : Sl} {v j : Nat} {names : List D} {K n : Nat} {g : Dk} (items : List D) (hlen : items.length ≤ K) (h0 : st0[0]? = some (some (.sh (.obj 0)))) (hj : Has1 st0 j names) (hv : st0[v]? = some none) (hn : names ≠ []) (hz : names.length ≤ 1000) (ok : Ok (n + K) g) :
    ∃ acc st' g', compM (.nm v) [v] mYes (mCall F__law_one (mCons (mVar 0) (mCons (mVar j) mNil))) items [] st0 g = some (acc, st', g') ∧ acc.length = items.length ∧ (∀ d ∈ acc, d ∈ names) ∧ Ok n g' ∧ (items ≠ [] → wipeS st' [v] = st0.set j (some (.sh (.lst names)))) := by
  have v0 : v ≠ 0 := fun e => by rw [e, h0] at hv; cases hv
  have vj : v ≠ j := fun e => by rw [e] at hv; rcases hj with h | h <;> (rw [h] at hv; cases hv)
  have j0 : j ≠ 0 := fun e => by rw [e] at hj; rcases hj with h | h <;> (rw [h0] at h; cases h)
  have lv : v < st0.length := (List.getElem?_eq_some_iff.mp hv).1
  have lj : j < st0.length := by rcases hj with h | h <;> exact (List.getElem?_eq_some_iff.mp h).1
  have e0 : st0.set v none = st0 := by
    apply List.ext_getElem?
    intro i
    by_cases hi : v = i
    · subst hi; rw [List.getElem?_set_self lv, hv]
    · rw [List.getElem?_set_ne hi]
  have ew : (st0.set j (some (.sh (.lst names)))).set v none = st0.set j (some (.sh (.lst names))) := by
    rw [List.set_comm _ _ (Ne.symm vj), e0]
  obtain ⟨acc, st', g', e, ha, hm, hk, hw⟩ := compM_rule (p := .nm v) (vs := [v]) (test := mYes) (elt := (mCall F__law_one (mCons (mVar 0) (mCons (mVar j) mNil)) : M Dk S))
    (fun i acc st g => acc.length = i ∧ (∀ d ∈ acc, d ∈ names) ∧ (i ≤ K → Ok (n + (K - i)) g) ∧ (if i = 0 then st = st0 else st.set v none = st0.set j (some (.sh (.lst names))))) items 0 [] st0 g ⟨rfl, (fun d hd => nomatch hd), (fun _ => ok), rfl⟩ fun k d acc st g e ⟨ha, hm, hk, hw⟩ => by
      have hkl : k < items.length := (List.getElem?_eq_some_iff.mp e).1
      -- the slots at the start of a turn
      have hs : ∃ s, st.set v none = s ∧ Has1 s j names ∧ s[0]? = some (some (.sh (.obj 0))) ∧ s.set j (some (.sh (.lst names))) = st0.set j (some (.sh (.lst names))) ∧ s.length = st0.length := by
        by_cases hk0 : 0 + k = 0
        · rw [if_pos hk0] at hw; subst hw
          exact ⟨st, e0, hj, h0, rfl, rfl⟩
        · rw [if_neg hk0] at hw
          refine ⟨_, hw, .inl (List.getElem?_set_self lj), ?_, List.set_set .., by simp⟩
          rw [List.getElem?_set_ne j0]; exact h0
      obtain ⟨s, es, hh, hs0, hsj, hsl⟩ := hs
      have w1 : wipeS st [v] = s := es
      rw [w1]
      refine ⟨s.set v (some (.sh d)), ?_, true, s.set v (some (.sh d)), g, rfl, fun _ => ?_, fun q => by cases q⟩
      · simp only [asg]
        rw [if_pos (by rw [hsl]; exact lv)]
      · have hh' : Has1 (s.set v (some (.sh d))) j names := by
          rcases hh with h | h
          · exact .inl (by rw [List.getElem?_set_ne vj]; exact h)
          · exact .inr (by rw [List.getElem?_set_ne vj]; exact h)
        have hs0' : (s.set v (some (.sh d)))[0]? = some (some (.sh (.obj 0))) := by rw [List.getElem?_set_ne v0]; exact hs0
        obtain ⟨x, g2, ex, hx, ok2⟩ := one_lst (n := n + (K - (0 + k + 1))) (g := g) (by have := hk (by omega); rw [show n + (K - (0 + k + 1)) + 1 = n + (K - (0 + k)) by omega]; exact this) hn hz
        refine ⟨x, (s.set v (some (.sh d))).set j (some (.sh (.lst names))), g2, ?_, by simp [ha], fun y hy => ?_, fun _ => ok2, ?_⟩
        · have m0 : mTake (mVar 0) (s.set v (some (.sh d))) g = some (.obj 0, s.set v (some (.sh d)), g) := by simp only [mTake, mVar, hs0', bnd_some, take, Option.map_some]
          have mc : mCons (mVar 0) (mCons (mVar j) mNil) (s.set v (some (.sh d))) g = some ([.obj 0, .lst names], (s.set v (some (.sh d))).set j (some (.sh (.lst names))), g) := by
            simp only [mCons, m0, bnd_some, take_has hh', mNil]
          rw [mTake, mCall, mc]
          simp only [bnd_some, ex, Option.map_some, take]
        · rcases List.mem_append.mp hy with h | h
          · exact hm y h
          · simp at h; rw [h]; exact hx
        · rw [if_neg (by omega), List.set_comm _ _ vj, List.set_set, List.set_comm _ _ (Ne.symm vj)]
          have : s.set v none = s := by rw [← es, List.set_set]
          rw [this, hsj]
  refine ⟨acc, st', g', e, by simpa using ha, hm, ?_, fun hne => ?_⟩
  · have := hk (by simpa using hlen)
    exact this.mono (by omega)
  · have : 0 + items.length ≠ 0 := by
      have := List.length_pos_iff.mpr hne; omega
    rw [if_neg this] at hw
    exact hw
/-! ### how the functions run -/
theorem nr {α : Sort u} {a b : α} (h : a = b) : a = b := h
inductive UnitOf {α : Sort u} (k : α) : Type where
  | u
/-- as bnd; simp does not look into what follows -/
def thn {G α β : Type} (x : Option (α × Sl × G)) (k : α → Sl → G → Option β) (u : UnitOf k) : Option β := bnd x k
section
variable {G : Type} {α β : Type} {st : Sl} {g : G} {a b c : M G S} {x y : M G Bool} {p q : M G Fl} {u : M G (List D)} {i j : Nat} {d e : D} {f h : M G α} {op : D → D → Option S} {un : D → Option S} {F : Fn G} {s t : S} {ds : List D}
@[simp] theorem thn_some {a : α} {k : α → Sl → G → Option β} {u : UnitOf k} : thn (some (a, st, g)) k u = k a st g := nr rfl
@[simp] theorem thn_none {k : α → Sl → G → Option β} {u : UnitOf k} : thn (none : Option (α × Sl × G)) k u = none := nr rfl
def kSeq (q : M G Fl) : Fl → Sl → G → Option (Fl × Sl × G)
  | .nx, st, g => q st g
  | .rt d, st, g => some (.rt d, st, g)
  | .bk, st, g => some (.bk, st, g)
  | .ct, st, g => some (.ct, st, g)
@[simp] theorem kSeq_nx : kSeq q .nx st g = q st g := nr rfl
@[simp] theorem kSeq_rt : kSeq q (.rt d) st g = some (.rt d, st, g) := nr rfl
@[simp] theorem kSeq_bk : kSeq q .bk st g = some (.bk, st, g) := nr rfl
@[simp] theorem kSeq_ct : kSeq q .ct st g = some (.ct, st, g) := nr rfl
@[simp] theorem r_seq : mSeq p q st g = thn (p st g) (kSeq q) .u := nr (by unfold mSeq thn; congr 1; funext fl st g; cases fl <;> rfl)
def kRet (d : D) (st : Sl) (g : G) : Option (Fl × Sl × G) := some (.rt d, st, g)
@[simp] theorem kRet_eq : kRet d st g = some (.rt d, st, g) := nr rfl
@[simp] theorem r_ret : mRet a st g = thn (mTake a st g) kRet .u := nr rfl
def kDrop (_ : S) (st : Sl) (g : G) : Option (Fl × Sl × G) := some (.nx, st, g)
@[simp] theorem kDrop_eq : kDrop s st g = some (.nx, st, g) := nr rfl
@[simp] theorem r_drop : mDrop a st g = thn (a st g) kDrop .u := nr rfl
@[simp] theorem r_next : (mNext : M G Fl) st g = some (.nx, st, g) := nr rfl
def kTake (x : S) (st : Sl) (g : G) : Option (D × Sl × G) := (take x st).map fun p => (p.1, p.2, g)
def kAtT (i : Nat) (st : Sl) (g : G) : Option (Option S) → Option (D × Sl × G)
  | some (some (.sh d)) => some (d, st, g)
  | some (some (.ow d)) => some (d, st.set i (some (.sh d)), g)
  | _ => none
@[simp] theorem kTake_sh : kTake (.sh d) st g = some (d, st, g) := nr rfl
@[simp] theorem kTake_ow : kTake (.ow d) st g = some (d, st, g) := nr rfl
@[simp] theorem kTake_at : kTake (.at i) st g = kAtT i st g st[i]? := nr (by
  show ((match st[i]? with | some (some (.sh d)) => some (d, st) | some (some (.ow d)) => some (d, st.set i (some (.sh d))) | _ => none : Option (D × Sl)).map fun p => (p.1, p.2, g)) = kAtT i st g st[i]?
  generalize st[i]? = o
  exact match o with
    | none => rfl
    | some none => rfl
    | some (some s) => by cases s <;> rfl)
@[simp] theorem kAtT_sh : kAtT i st g (some (some (.sh d))) = some (d, st, g) := nr rfl
@[simp] theorem kAtT_ow : kAtT i st g (some (some (.ow d))) = some (d, st.set i (some (.sh d)), g) := nr rfl
@[simp] theorem r_take : mTake a st g = thn (a st g) kTake .u := nr rfl
def kSet (i : Nat) (x : S) (st : Sl) (g : G) : Option (Fl × Sl × G) := if i < st.length then (match x with | .sh d => some (.nx, st.set i (some (.sh d)), g) | .ow d => some (.nx, st.set i (some (.ow d)), g) | .at j => (take (.at j) st).map fun p => (.nx, p.2.set i (some (.sh p.1)), g) | .any => none) else none
def kSetD (i : Nat) (d : D) (st : Sl) (g : G) : Option (Fl × Sl × G) := some (.nx, st.set i (some (.sh d)), g)
@[simp] theorem kSetD_eq : kSetD i d st g = some (.nx, st.set i (some (.sh d)), g) := nr rfl
@[simp] theorem kSet_sh : kSet i (.sh d) st g = if i < st.length then some (.nx, st.set i (some (.sh d)), g) else none := nr rfl
@[simp] theorem kSet_ow : kSet i (.ow d) st g = if i < st.length then some (.nx, st.set i (some (.ow d)), g) else none := nr rfl
@[simp] theorem kSet_at : kSet i (.at j) st g = if i < st.length then thn (kTake (.at j) st g) (kSetD i) .u else none := nr (by
  unfold kSet kTake thn
  simp only
  cases take (.at j) st <;> rfl)
@[simp] theorem r_set : mSet i a st g = thn (a st g) (kSet i) .u := nr rfl
def kIf (f h : M G α) : Bool → Sl → G → Option (α × Sl × G)
  | true, st, g => f st g
  | false, st, g => h st g
@[simp] theorem kIf_t : kIf f h true st g = f st g := nr rfl
@[simp] theorem kIf_f : kIf f h false st g = h st g := nr rfl
@[simp] theorem kIf_d {P : Prop} [Decidable P] : kIf f h (decide P) st g = if P then f st g else h st g := by by_cases e : P <;> simp [e]
@[simp] theorem kIf_n {b : Bool} : kIf f h (!b) st g = kIf h f b st g := by cases b <;> simp
@[simp] theorem r_if : mIf x f h st g = thn (x st g) (kIf f h) .u := nr (by unfold mIf thn; congr 1; funext b st g; cases b <;> rfl)
@[simp] theorem r_and : mAnd x y st g = thn (x st g) (kIf y (fun st g => some (false, st, g))) .u := nr (by unfold mAnd thn; congr 1; funext b st g; cases b <;> rfl)
@[simp] theorem r_or : mOr x y st g = thn (x st g) (kIf (fun st g => some (true, st, g)) y) .u := nr (by unfold mOr thn; congr 1; funext b st g; cases b <;> rfl)
def kNot (b : Bool) (st : Sl) (g : G) : Option (Bool × Sl × G) := some (!b, st, g)
@[simp] theorem kNot_eq {b : Bool} : kNot b st g = some (!b, st, g) := nr rfl
@[simp] theorem r_not : mNot x st g = thn (x st g) kNot .u := nr rfl
def kOfB (b : Bool) (st : Sl) (g : G) : Option (S × Sl × G) := some (.sh (.bl b), st, g)
@[simp] theorem kOfB_eq {b : Bool} : kOfB b st g = some (.sh (.bl b), st, g) := nr rfl
@[simp] theorem r_ofB : mOfB x st g = thn (x st g) kOfB .u := nr rfl
@[simp] theorem r_andV : mAndV a b st g = thn (mTest a st g) (kIf b (mC (.bl false))) .u := nr (by unfold mAndV; exact r_if)
@[simp] theorem r_orV : mOrV a b st g = thn (mTest a st g) (kIf (mC (.bl true)) b) .u := nr (by unfold mOrV; exact r_if)
def kTest : S → Sl → G → Option (Bool × Sl × G)
  | .sh (.bl b), st, g => some (b, st, g)
  | _, _, _ => none
@[simp] theorem kTest_bl {b : Bool} : kTest (.sh (.bl b)) st g = some (b, st, g) := nr rfl
@[simp] theorem r_test : mTest a st g = thn (a st g) kTest .u := nr (by
  unfold mTest thn; congr 1; funext s st g
  cases s with
  | sh d => cases d <;> rfl
  | _ => rfl)
@[simp] theorem r_c : (mC d : M G S) st g = some (.sh d, st, g) := nr rfl
def kVar (i : Nat) (st : Sl) (g : G) : Option (Option S) → Option (S × Sl × G)
  | some (some (.sh d)) => some (.sh d, st, g)
  | some (some (.ow _)) => some (.at i, st, g)
  | _ => none
@[simp] theorem kVar_sh : kVar i st g (some (some (.sh d))) = some (.sh d, st, g) := nr rfl
@[simp] theorem kVar_ow : kVar i st g (some (some (.ow d))) = some (.at i, st, g) := nr rfl
@[simp] theorem r_var : (mVar i : M G S) st g = kVar i st g st[i]? := nr (by
  show (match st[i]? with | some (some (.sh d)) => some (.sh d, st, g) | some (some (.ow _)) => some (.at i, st, g) | _ => none) = kVar i st g st[i]?
  generalize st[i]? = o
  exact match o with
    | none => rfl
    | some none => rfl
    | some (some s) => by cases s <;> rfl)
/-- what is seen -/
def kRes (s : Option S) (st : Sl) (g : G) : Option (S × Sl × G) := s.map fun z => (z, st, g)
@[simp] theorem kRes_some : kRes (some s) st g = some (s, st, g) := nr rfl
@[simp] theorem kRes_none : kRes none st g = none := nr rfl
@[simp] theorem kRes_ite {P : Prop} [Decidable P] {z w : Option S} : kRes (if P then z else w) st g = if P then kRes z st g else kRes w st g := by by_cases e : P <;> simp [e]
@[simp] theorem kRes_map {z : Option D} : kRes (z.map S.sh) st g = match z with | some d => some (.sh d, st, g) | none => none := by cases z <;> rfl
def kOp2 (op : D → D → Option S) (dx : D) (st : Sl) (g : G) : Option D → Option (S × Sl × G)
  | some dy => kRes (op dx dy) st g
  | none => none
def kOp1 (op : D → D → Option S) (y : S) (st : Sl) (g : G) : Option D → Option (S × Sl × G)
  | some dx => kOp2 op dx st g (peek y st)
  | none => none
@[simp] theorem kOp2_some : kOp2 op d st g (some e) = kRes (op d e) st g := nr rfl
@[simp] theorem kOp1_some : kOp1 op t st g (some d) = kOp2 op d st g (peek t st) := nr rfl
def kOpB (op : D → D → Option S) (x y : S) (st : Sl) (g : G) : Option (S × Sl × G) := kOp1 op y st g (peek x st)
@[simp] theorem kOpB_eq : kOpB op s t st g = kOp1 op t st g (peek s st) := nr rfl
def kOpA (op : D → D → Option S) (b : M G S) (x : S) (st : Sl) (g : G) : Option (S × Sl × G) := thn (b st g) (kOpB op x) .u
@[simp] theorem kOpA_eq : kOpA op b s st g = thn (b st g) (kOpB op s) .u := nr rfl
@[simp] theorem r_op : mOp op a b st g = thn (a st g) (kOpA op b) .u := nr (by
  unfold mOp thn kOpA; congr 1; funext x st g
  unfold thn; congr 1; funext y st g
  unfold kOpB kOp1 kOp2 kRes
  cases peek x st with
  | none => rfl
  | some dx => cases peek y st <;> rfl)
def kUn1 (un : D → Option S) (st : Sl) (g : G) : Option D → Option (S × Sl × G)
  | some d => kRes (un d) st g
  | none => none
@[simp] theorem kUn1_some : kUn1 un st g (some d) = kRes (un d) st g := nr rfl
def kUn (un : D → Option S) (x : S) (st : Sl) (g : G) : Option (S × Sl × G) := kUn1 un st g (peek x st)
@[simp] theorem kUn_eq : kUn un s st g = kUn1 un st g (peek s st) := nr rfl
@[simp] theorem r_un : mUn un a st g = thn (a st g) (kUn un) .u := nr (by
  unfold mUn thn; congr 1; funext x st g
  unfold kUn kUn1 kRes
  cases peek x st <;> rfl)
@[simp] theorem r_nil : (mNil : M G (List D)) st g = some ([], st, g) := nr rfl
def kCons2 (d : D) (ds : List D) (st : Sl) (g : G) : Option (List D × Sl × G) := some (d :: ds, st, g)
@[simp] theorem kCons2_eq : kCons2 d ds st g = some (d :: ds, st, g) := nr rfl
def kCons (u : M G (List D)) (d : D) (st : Sl) (g : G) : Option (List D × Sl × G) := thn (u st g) (kCons2 d) .u
@[simp] theorem kCons_eq : kCons u d st g = thn (u st g) (kCons2 d) .u := nr rfl
@[simp] theorem r_cons : mCons a u st g = thn (mTake a st g) (kCons u) .u := nr rfl
def kTup (ds : List D) (st : Sl) (g : G) : Option (S × Sl × G) := if ds.length ≤ sizeLine then some (.sh (.tup ds), st, g) else none
@[simp] theorem kTup_eq : kTup ds st g = if ds.length ≤ sizeLine then some (.sh (.tup ds), st, g) else none := nr rfl
@[simp] theorem r_tup : mTup u st g = thn (u st g) kTup .u := nr rfl
def kLst (ds : List D) (st : Sl) (g : G) : Option (S × Sl × G) := if ds.length ≤ sizeLine then some (.ow (.lst ds), st, g) else none
@[simp] theorem kLst_eq : kLst ds st g = if ds.length ≤ sizeLine then some (.ow (.lst ds), st, g) else none := nr rfl
@[simp] theorem r_lst : mLst u st g = thn (u st g) kLst .u := nr rfl
def kOut (st : Sl) : Option (D × G) → Option (S × Sl × G)
  | some p => some (.sh p.1, st, p.2)
  | none => none
@[simp] theorem kOut_some : kOut st (some (d, g)) = some (.sh d, st, g) := nr rfl
def kCall (F : Fn G) (ds : List D) (st : Sl) (g : G) : Option (S × Sl × G) := kOut st (F ds g)
@[simp] theorem kCall_eq : kCall F ds st g = kOut st (F ds g) := nr rfl
@[simp] theorem r_call : mCall F u st g = thn (u st g) (kCall F) .u := nr (by
  unfold mCall thn; congr 1; funext ds st g
  unfold kCall kOut
  cases F ds g <;> rfl)
def kSl2 (l h : Option Int) (st : Sl) (g : G) : Option D → Option (S × Sl × G)
  | some d => kRes (opSl d l h) st g
  | none => none
@[simp] theorem kSl2_some {l h : Option Int} : kSl2 l h st g (some d) = kRes (opSl d l h) st g := nr rfl
def kSl1 (x : S) (l h : Option Int) (st : Sl) (g : G) : Option (S × Sl × G) := kSl2 l h st g (peek x st)
@[simp] theorem kSl1_eq {l h : Option Int} : kSl1 s l h st g = kSl2 l h st g (peek s st) := nr rfl
def kSl0 (fh : M G (Option Int)) (x : S) (l : Option Int) (st : Sl) (g : G) : Option (S × Sl × G) := thn (fh st g) (kSl1 x l) .u
@[simp] theorem kSl0_eq {fh : M G (Option Int)} {l : Option Int} : kSl0 fh s l st g = thn (fh st g) (kSl1 s l) .u := nr rfl
def kSl (fl fh : M G (Option Int)) (x : S) (st : Sl) (g : G) : Option (S × Sl × G) := thn (fl st g) (kSl0 fh x) .u
@[simp] theorem kSl_eq {fl fh : M G (Option Int)} : kSl fl fh s st g = thn (fl st g) (kSl0 fh s) .u := nr rfl
@[simp] theorem r_sl {l h : M G (Option Int)} : mSl a l h st g = thn (a st g) (kSl l h) .u := nr (by
  unfold mSl thn kSl; congr 1; funext x st g
  unfold thn kSl0; congr 1; funext l st g
  unfold thn kSl1 kSl2 kRes; congr 1; funext h st g
  cases peek x st <;> rfl)
@[simp] theorem r_noP : (mNoP : M G (Option Int)) st g = some (none, st, g) := nr rfl
def kPart : S → Sl → G → Option (Option Int × Sl × G)
  | .sh (.int i), st, g => some (some i, st, g)
  | _, _, _ => none
@[simp] theorem kPart_int {i : Int} : kPart (.sh (.int i)) st g = some (some i, st, g) := nr rfl
@[simp] theorem r_part : mPart a st g = thn (a st g) kPart .u := nr (by
  unfold mPart thn; congr 1; funext s st g
  cases s with
  | sh d => cases d <;> rfl
  | _ => rfl)
@[simp] theorem r_dnew : (mDNew : M G S) st g = some (.ow (.dct []), st, g) := nr rfl
@[simp] theorem r_yes : (mYes : M G Bool) st g = some (true, st, g) := nr rfl
def kHold (x : S) (st : Sl) (g : G) : Option (S × Sl × G) := (hold x st).map fun p => (p.1, p.2, g)
def kHoldD (d : D) (st : Sl) (g : G) : Option (S × Sl × G) := some (.sh d, st, g)
@[simp] theorem kHoldD_eq : kHoldD d st g = some (.sh d, st, g) := nr rfl
@[simp] theorem kHold_sh : kHold (.sh d) st g = some (.sh d, st, g) := nr rfl
@[simp] theorem kHold_ow : kHold (.ow d) st g = some (.ow d, st, g) := nr rfl
@[simp] theorem kHold_at : kHold (.at i) st g = thn (kTake (.at i) st g) kHoldD .u := nr (by
  unfold kHold kTake thn hold
  simp only
  cases take (.at i) st <;> rfl)
@[simp] theorem r_hold : mHold a st g = thn (a st g) kHold .u := nr rfl
def kPar2 (i j : Nat) (x y : S) (st : Sl) (g : G) : Option (Fl × Sl × G) := if i < st.length ∧ j < st.length then some (.nx, (st.set j (some y)).set i (some x), g) else none
@[simp] theorem kPar2_eq : kPar2 i j s t st g = if i < st.length ∧ j < st.length then some (.nx, (st.set j (some t)).set i (some s), g) else none := nr rfl
def kPar (i j : Nat) (b : M G S) (x : S) (st : Sl) (g : G) : Option (Fl × Sl × G) := thn (mHold b st g) (kPar2 i j x) .u
@[simp] theorem kPar_eq : kPar i j b s st g = thn (mHold b st g) (kPar2 i j s) .u := nr rfl
@[simp] theorem r_par : mPar i j a b st g = thn (mHold a st g) (kPar i j b) .u := nr rfl
def kLc2 (vs : List Nat) (acc : List D) (st : Sl) (g : G) : Option (S × Sl × G) := some (.ow (.lst acc), wipeS st vs, g)
@[simp] theorem kLc2_eq {vs : List Nat} : kLc2 vs ds st g = some (.ow (.lst ds), wipeS st vs, g) := nr rfl
def kLc (t : Pt) (vs : List Nat) (x : M G Bool) (a : M G S) (z : List D × List S) (st : Sl) (g : G) : Option (S × Sl × G) := thn (compM t vs x a z.1 [] st g) (kLc2 vs) .u
@[simp] theorem kLc_eq {t : Pt} {vs : List Nat} {z : List D × List S} : kLc t vs x a z st g = thn (compM t vs x a z.1 [] st g) (kLc2 vs) .u := nr rfl
@[simp] theorem r_lc {s : M G (List D × List S)} {t : Pt} {vs : List Nat} : mLc s t vs x a st g = thn (s st g) (kLc t vs x a) .u := nr rfl
def kFor (t : Pt) (p : M G Fl) (z : List D × List S) (st : Sl) (g : G) : Option (Fl × Sl × G) := forM t p z.1 st g
@[simp] theorem kFor_eq {t : Pt} {z : List D × List S} : kFor t p z st g = forM t p z.1 st g := nr rfl
@[simp] theorem r_for {s : M G (List D × List S)} {t : Pt} : mFor s t p st g = thn (s st g) (kFor t p) .u := nr rfl
def kSeqS : D → Sl → G → Option ((List D × List S) × Sl × G)
  | .lst ds, st, g => some ((ds, [.sh (.lst ds)]), st, g)
  | .tup ds, st, g => some ((ds, [.sh (.tup ds)]), st, g)
  | .str x, st, g => if x.cps.size ≤ sizeLine then some ((chars x, []), st, g) else none
  | _, _, _ => none
@[simp] theorem kSeqS_lst : kSeqS (.lst ds) st g = some ((ds, [.sh (.lst ds)]), st, g) := nr rfl
@[simp] theorem kSeqS_tup : kSeqS (.tup ds) st g = some ((ds, [.sh (.tup ds)]), st, g) := nr rfl
@[simp] theorem kSeqS_str {x : Str} : kSeqS (.str x) st g = if x.cps.size ≤ sizeLine then some ((chars x, []), st, g) else none := nr rfl
@[simp] theorem r_srcSeq : srcSeq a st g = thn (mTake a st g) kSeqS .u := nr (by
  unfold srcSeq thn; congr 1; funext d st g
  cases d <;> rfl)
def okR (j : Int) : Bool := decide (-(2 ^ 62) ≤ j ∧ j < 2 ^ 62 ∧ j.toNat ≤ sizeLine)
def rngD (d : D) (st : Sl) (g : G) : Option ((List D × List S) × Sl × G) := match d with
  | .int j => if okR j = true then some ((rangeD 0 j.toNat, []), st, g) else none
  | _ => none
@[simp] theorem r_srcR : srcRange1 a st g = thn (mTake a st g) rngD .u := nr (by
  unfold srcRange1 thn rngD okR
  congr 1
  funext d st g
  cases d <;> simp only [decide_eq_true_eq])
@[simp] theorem rngD_int {j : Int} (h : okR j = true) : rngD (.int j) st g = some ((rangeD 0 j.toNat, []), st, g) := by simp only [rngD, h, if_true]
theorem okR_of {j : Int} (h0 : -1000 ≤ j) (h1 : j ≤ 1000) : okR j = true := by
  simp only [okR, decide_eq_true_eq]
  exact ⟨by omega, by omega, by rw [sizeLine_eq]; omega⟩
@[simp] theorem opSl_tup {ds : List D} {l h : Option Int} : opSl (.tup ds) l h = some (.sh (.tup (cutD ds l h))) := nr rfl
@[simp] theorem opSl_lst {ds : List D} {l h : Option Int} : opSl (.lst ds) l h = some (.ow (.lst (cutD ds l h))) := nr rfl
@[simp] theorem opTuple_tup {ds : List D} : opTuple (.tup ds) = some (.sh (.tup ds)) := nr rfl
@[simp] theorem opTuple_lst {ds : List D} : opTuple (.lst ds) = some (.sh (.tup ds)) := nr rfl
@[simp] theorem opList_tup {ds : List D} : opList (.tup ds) = some (.ow (.lst ds)) := nr rfl
@[simp] theorem opList_lst {ds : List D} : opList (.lst ds) = some (.ow (.lst ds)) := nr rfl
@[simp] theorem opLen_tup {ds : List D} : opLen (.tup ds) = some (.sh (.int ds.length)) := nr rfl
@[simp] theorem opLen_lst {ds : List D} : opLen (.lst ds) = some (.sh (.int ds.length)) := nr rfl
@[simp] theorem opAdd_int {a b : Int} : opAdd (.int a) (.int b) = some (.sh (.int (a + b))) := nr rfl
@[simp] theorem opIx_lst {ds : List D} {i : Int} : opIx (.lst ds) (.int i) = (atI ds i).map S.sh := nr rfl
@[simp] theorem opIx_tup {ds : List D} {i : Int} : opIx (.tup ds) (.int i) = (atI ds i).map S.sh := nr rfl
@[simp] theorem opIx_str {kvs : List (D × D)} {k : Str} : opIx (.dct kvs) (.str k) = (dlook kvs (.str k)).map S.sh := nr rfl
@[simp] theorem at0 {α : Type} {x : α} {l : List α} : atI (x :: l) 0 = some x := by simp [atI, ixN]
@[simp] theorem at1 {α : Type} {x y : α} {l : List α} : atI (x :: y :: l) 1 = some y := by
  have : (1 : Int) < ((x :: y :: l).length : Int) := by simp only [List.length_cons]; omega
  simp only [atI, ixN, this, if_true]
  rfl
@[simp] theorem pk_sh : peek (.sh d) st = some d := nr rfl
@[simp] theorem pk_ow : peek (.ow d) st = some d := nr rfl
@[simp] theorem tk_sh : take (.sh d) st = some (d, st) := nr rfl
@[simp] theorem tk_ow : take (.ow d) st = some (d, st) := nr rfl
@[simp] theorem hd_sh : hold (.sh d) st = some (.sh d, st) := nr rfl
@[simp] theorem hd_ow : hold (.ow d) st = some (.ow d, st) := nr rfl
@[simp] theorem pk_at : peek (.at i) st = match st[i]? with
    | some (some (.sh d)) => some d
    | some (some (.ow d)) => some d
    | _ => none := nr rfl
@[simp] theorem tk_at : take (.at i) st = match st[i]? with
    | some (some (.sh d)) => some (d, st)
    | some (some (.ow d)) => some (d, st.set i (some (.sh d)))
    | _ => none := nr rfl
@[simp] theorem hd_at : hold (.at i) st = (take (.at i) st).map fun p => (.sh p.1, p.2) := nr rfl
theorem le_sz {n : Nat} (h : n ≤ 10000) : n ≤ sizeLine := by rw [sizeLine_eq]; omega
end
end DL
namespace DL
open PySem PySem.Spec PyProof.Rows L2
/-! ### texts -/
abbrev tx (l : List Str) : List D := l.map D.str
def unT : D → Option Str
  | .str x => some x
  | _ => none
def ssT (l : List Str) : List Str := (ssD (tx l)).filterMap unT
theorem ssT_eq (l : List Str) : ssD (tx l) = tx (ssT l) := by
  have : ∀ ds : List D, (∀ d ∈ ds, ∃ x, d = .str x) → ds = tx (ds.filterMap unT) := by
    intro ds
    induction ds with
    | nil => intro _; rfl
    | cons d ds ih =>
      intro h
      obtain ⟨x, rfl⟩ := h d List.mem_cons_self
      have := ih fun d hd => h d (List.mem_cons_of_mem _ hd)
      have e : tx (List.filterMap unT (D.str x :: ds)) = D.str x :: tx (List.filterMap unT ds) := rfl
      rw [e, ← this]
  exact this _ fun d hd => by
    obtain ⟨x, _, rfl⟩ := List.mem_map.mp (ssD_sub hd)
    exact ⟨x, rfl⟩
theorem ssT_mem {l : List Str} {x : Str} : x ∈ ssT l ↔ x ∈ l := by
  have h : D.str x ∈ ssD (tx l) ↔ D.str x ∈ tx l := ssD_mem (injT_strs l)
  rw [ssT_eq] at h
  have inj : ∀ l : List Str, D.str x ∈ tx l ↔ x ∈ l := fun l => by simp [tx]
  rw [inj, inj] at h
  exact h
theorem ssT_asc (l : List Str) : Asc (tx (ssT l)) := by rw [← ssT_eq]; exact ssD_asc _
theorem ssT_len (l : List Str) : (ssT l).length ≤ l.length := by
  have := ssD_len (tx l)
  rw [ssT_eq] at this
  simpa using this
theorem ssT_ne {l : List Str} (h : l ≠ []) : ssT l ≠ [] := by
  obtain ⟨x, hx⟩ := List.exists_mem_of_ne_nil l h
  exact List.ne_nil_of_mem (ssT_mem.mpr hx)
theorem ssT_ext {a b : List Str} (h : ∀ x, x ∈ a ↔ x ∈ b) : ssT a = ssT b := by
  have : tx (ssT a) = tx (ssT b) := by
    refine asc_one (ssT_asc a) (ssT_asc b) fun y => ?_
    constructor
    · intro hy
      obtain ⟨x, hx, rfl⟩ := List.mem_map.mp hy
      exact List.mem_map_of_mem (ssT_mem.mpr ((h x).mp (ssT_mem.mp hx)))
    · intro hy
      obtain ⟨x, hx, rfl⟩ := List.mem_map.mp hy
      exact List.mem_map_of_mem (ssT_mem.mpr ((h x).mpr (ssT_mem.mp hx)))
  exact List.map_inj_right (fun x y h => D.str.inj h) |>.mp this
theorem okSS_strs {l : List Str} (h : l.length < 64) : okSS (tx l) = true := by
  simp [okSS, isT, h]
theorem opSS_lst {l : List Str} (h : l.length < 64) : opSS (.lst (tx l)) = some (.ow (.lst (tx (ssT l)))) := by simp only [opSS, okSS_strs h, if_true, ssT_eq]
theorem strs_of {ds : List D} {l : List Str} (h : ∀ d ∈ ds, d ∈ tx l) : ∃ ts, ds = tx ts ∧ ∀ t ∈ ts, t ∈ l := by
  induction ds with
  | nil => exact ⟨[], rfl, fun _ h => nomatch h⟩
  | cons d ds ih =>
    obtain ⟨ts, e, ht⟩ := ih fun d hd => h d (List.mem_cons_of_mem _ hd)
    obtain ⟨x, hx, rfl⟩ := List.mem_map.mp (h d List.mem_cons_self)
    exact ⟨x :: ts, by rw [e]; rfl, fun t ht' => by
      rcases List.mem_cons.mp ht' with e | h
      · exact e ▸ hx
      · exact ht t h⟩
theorem Asc.take {l : List D} (h : Asc l) (n : Nat) : Asc (l.take n) := List.Pairwise.sublist (List.take_sublist n l) h
theorem cut_to {l : List D} {n : Nat} : cutD l none (some (n : Int)) = l.take n := by
  unfold cutD
  have h1 : HT.sIx l.length 0 none = 0 := rfl
  have h2 : HT.sIx l.length l.length (some (n : Int)) = min n l.length := HT.sIx_nat l.length l.length n
  rw [h1, h2, List.drop_zero, Nat.sub_zero]
  rcases Nat.le_total n l.length with h | h
  · rw [Nat.min_eq_left h]
  · rw [Nat.min_eq_right h, List.take_of_length_le h, List.take_of_length_le (Nat.le_refl _)]
/-! ### dials -/
def colNames : List Str := ["a", "b", "buyer", "c", "day", "item", "shop", "thin"]
def dialNames : List Str := ["man", "thing", "place", "day"]
def dialE (p : Str × Str) : D := .tup [.str p.1, .str p.2]
structure Dials (dl : List (Str × Str)) : Prop where
  ne : dl ≠ []
  few : dl.length ≤ 5
  asc : Asc (tx (dl.map (·.1)))
  col : ∀ p ∈ dl, p.1 ∈ colNames
  dial : ∀ p ∈ dl, p.2 ∈ dialNames
theorem rangeD_len (lo : Int) (n : Nat) : (rangeD lo n).length = n := by simp [rangeD]
theorem rangeD_ne {n : Nat} (h : 0 < n) : rangeD 0 n ≠ [] := fun e => by have := congrArg List.length e; rw [rangeD_len] at this; simp at this; omega
theorem dials_ok {n : Nat} {g : Dk} (ok : Ok (n + 20) g) : ∃ dl g', F__law_dials [.obj 0] g = some (.tup (dl.map dialE), g') ∧ Dials dl ∧ Ok n g' := by
  obtain ⟨r, g1, e1, r0, r1, ok1⟩ := next_ok (m := 6) (n := n + 19) ok (by decide) (by decide)
  obtain ⟨acc, s1, g2, e2, l2, m2, ok2, w2⟩ := draws (st0 := [some (.sh (.obj 0)), some (.ow (.lst (tx colNames))), none, none, none, none]) (v := 5) (j := 1) (names := tx colNames) (K := 6) (n := n + 13) (g := g1) (rangeD 0 (1 + r).toNat) (by rw [rangeD_len]; omega) rfl (.inr rfl) rfl (by decide) (by decide) (ok1.mono (by omega))
  have w2 := w2 (rangeD_ne (by omega))
  obtain ⟨ts, rfl, ht⟩ := strs_of m2
  obtain ⟨q, g3, e3, q0, q1, ok3⟩ := next_ok (m := 3) (n := n + 12) (g := g2) (ok2.mono (by omega)) (by decide) (by decide)
  have hts : ts.length < 64 := by rw [List.length_map, rangeD_len] at l2; omega
  have htn : ts ≠ [] := fun e => by rw [e, List.length_map, rangeD_len] at l2; simp at l2; omega
  obtain ⟨cols, hcols⟩ : ∃ cols, cols = (ssT ts).take 5 := ⟨_, rfl⟩
  have hcut : cutD (tx (ssT ts)) none (some 5) = tx cols := by rw [hcols]; exact (cut_to (n := 5)).trans List.map_take.symm
  have hcl : cols.length ≤ 5 := by rw [hcols, List.length_take]; omega
  have hcn : cols ≠ [] := by
    rw [hcols]
    have := ssT_ne htn
    cases h : ssT ts with
    | nil => exact absurd h this
    | cons x r => simp
  have hca : Asc (tx cols) := by rw [← hcut]; rw [show cutD (tx (ssT ts)) none (some 5) = (tx (ssT ts)).take 5 from cut_to (n := 5)]; exact (ssT_asc ts).take 5
  have hcm : ∀ c ∈ cols, c ∈ colNames := fun c hc => by
    rw [hcols] at hc
    exact ht c (ssT_mem.mp (List.mem_of_mem_take hc))
  -- the dials to draw from
  obtain ⟨dn, hdn, hne, hdz, hds⟩ : ∃ dn, atI [D.lst (tx ["man", "thing", "man"]), .lst (tx ["man"]), .lst (tx ["man", "thing", "place", "day"])] q = some (.lst (tx dn)) ∧ dn ≠ [] ∧ (tx dn).length ≤ 1000 ∧ ∀ x ∈ dn, x ∈ dialNames := by
    have hq : q = 0 ∨ q = 1 ∨ q = 2 := by omega
    rcases hq with rfl | rfl | rfl
    · exact ⟨["man", "thing", "man"], by simp [atI, ixN], by simp, by simp, by decide⟩
    · exact ⟨["man"], by simp [atI, ixN], by simp, by simp, by decide⟩
    · exact ⟨["man", "thing", "place", "day"], by simp [atI, ixN], by simp, by simp, by decide⟩
  obtain ⟨a3, s3, g4, e4, dl, rfl, hd1, hd2, ok4, w4⟩ := compM_rule (p := .nm 4) (vs := [4]) (test := mYes) (elt := (mTup (mCons (mVar 4) (mCons (mCall F__law_one (mCons (mVar 0) (mCons (mVar 3) mNil))) mNil)) : M Dk S))
    (fun i acc st g => ∃ dl : List (Str × Str), acc = dl.map dialE ∧ dl.map (·.1) = cols.take i ∧ (∀ p ∈ dl, p.2 ∈ dialNames) ∧ (i ≤ 5 → Ok (n + (5 - i)) g) ∧ st.set 4 none = [some (.sh (.obj 0)), some (.sh (.lst (tx colNames))), some (.sh (.lst (tx cols))), some (.sh (.lst (tx dn))), none, none]) (tx cols) 0 []
    [some (.sh (.obj 0)), some (.sh (.lst (tx colNames))), some (.sh (.lst (tx cols))), some (.sh (.lst (tx dn))), none, none] g3 ⟨[], rfl, by simp, (fun p hp => nomatch hp), (fun _ => ok3.mono (by omega)), rfl⟩ fun k d acc st g e ⟨dl, ha, h1, h2, hk, hw⟩ => by
      have hkl : k < (tx cols).length := (List.getElem?_eq_some_iff.mp e).1
      rw [List.length_map] at hkl
      rw [List.getElem?_map] at e
      obtain ⟨c, ec, rfl⟩ := Option.map_eq_some_iff.mp e
      have w1 : wipeS st [4] = _ := hw
      rw [w1]
      obtain ⟨x, g2, ex, hx, okx⟩ := one_lst (n := n + (5 - (0 + k + 1))) (g := g) (ds := tx dn) (by have := hk (by omega); rw [show n + (5 - (0 + k + 1)) + 1 = n + (5 - (0 + k)) by omega]; exact this) (by simpa using hne) hdz
      obtain ⟨y, hy, rfl⟩ := List.mem_map.mp hx
      refine ⟨_, rfl, true, _, g, rfl, fun _ => ⟨dialE (c, y), [some (.sh (.obj 0)), some (.sh (.lst (tx colNames))), some (.sh (.lst (tx cols))), some (.sh (.lst (tx dn))), some (.sh (.str c)), none], g2, ?_, dl ++ [(c, y)], by rw [ha]; simp, ?_, fun p hp => ?_, fun _ => okx, rfl⟩, fun h => by cases h⟩
      · simp [ex, le_sz, dialE]
      · rw [List.map_append, h1, show 0 + k + 1 = k + 1 by omega, List.take_add_one, ec, show 0 + k = k by omega]; rfl
      · rcases List.mem_append.mp hp with h | h
        · exact h2 p h
        · simp at h; rw [h]; exact hds y hy
  have hd1 : dl.map (·.1) = cols := by
    rw [hd1]
    exact List.take_of_length_le (by simp)
  refine ⟨dl, g4, mFn_rt (st := [some (.sh (.obj 0)), some (.sh (.lst (tx colNames))), some (.sh (.lst (tx cols))), some (.sh (.lst (tx dn))), none, none]) rfl ?_, ⟨fun e => ?_, ?_, ?_, fun p hp => ?_, hd2⟩, (ok4 (by simp; omega)).mono (by omega)⟩
  · have l8 : (8 : Nat) ≤ sizeLine := le_sz (by decide)
    have rr : okR (1 + r) = true := okR_of (by omega) (by omega)
    show B__law_dials [some (.sh (.obj 0)), none, none, none, none, none] g = _
    simp only [tx, colNames, List.map_cons, List.map_nil] at e2 e4 hcut w2 hdn ⊢
    simp [B__law_dials, e1, e2, e3, e4, hdn, hcut, opSS_lst hts, w2, rr, l8, le_sz]
    exact w4
  · rw [e] at hd1; exact hcn hd1.symm
  · have := congrArg List.length hd1; rw [List.length_map] at this; omega
  · rw [hd1]; exact hca
  · exact hcm p.1 (by rw [← hd1]; exact List.mem_map_of_mem hp)
theorem mFn_run {G : Type} {n m : Nat} {b : M G Fl} {ds : List D} {g g' : G} {d : D} (hl : ds.length = n) (h : (b (ds.map (fun d => some (.sh d)) ++ List.replicate (m - n) none) g).map (fun r => (r.1, r.2.2)) = some (.rt d, g')) : mFn n m b ds g = some (d, g') := by
  obtain ⟨⟨fl, st, g2⟩, e, e2⟩ := Option.map_eq_some_iff.mp h
  simp only [Prod.mk.injEq] at e2
  obtain ⟨rfl, rfl⟩ := e2
  exact mFn_rt hl e
/-! ### schemes -/
def headDrawn : List Str := ["all", "bought", "had", "m", "sold", "t"]
def headNames : List Str := ["all", "bought", "had", "m", "p", "q", "sold", "t"]
def headE (p : Str × List Str) : D := .tup [.str p.1, .tup (tx p.2)]
def schE (dl : List (Str × Str)) (hs : List (Str × List Str)) : D := .tup [.tup (dl.map dialE), .tup (hs.map headE)]
structure Heads (dl : List (Str × Str)) (hs : List (Str × List Str)) : Prop where
  ne : hs ≠ []
  few : hs.length ≤ 4
  asc : Asc (tx (hs.map (·.1)))
  name : ∀ p ∈ hs, p.1 ∈ headNames
  cne : ∀ p ∈ hs, p.2 ≠ []
  cfew : ∀ p ∈ hs, p.2.length ≤ 3
  casc : ∀ p ∈ hs, Asc (tx p.2)
  sub : ∀ p ∈ hs, ∀ c ∈ p.2, c ∈ dl.map (·.1)
end DL
namespace DL
open PySem PySem.Spec PyProof.Rows L2
/-! ### dicts with texts as keys -/
def kvE (kvs : List (Str × D)) : List (D × D) := kvs.map fun p => (D.str p.1, p.2)
def tput (kvs : List (Str × D)) (k : Str) (v : D) : List (Str × D) := if (kvs.any fun p => decide (p.1 = k)) = true then kvs.map (fun p => if p.1 = k then (p.1, v) else p) else kvs ++ [(k, v)]
theorem kEq_str (a b : Str) : kEq (.str a) (.str b) = decide (a = b) := by
  simp [kEq, keyD]
theorem dput_str (kvs : List (Str × D)) (k : Str) (v : D) : dput (kvE kvs) (.str k) v = kvE (tput kvs k v) := by
  unfold dput tput
  have h : ((kvE kvs).any fun p => kEq p.1 (.str k)) = kvs.any fun p => decide (p.1 = k) := by
    unfold kvE
    rw [List.any_map]
    congr 1
    funext p
    exact kEq_str p.1 k
  rw [h]
  split
  · unfold kvE
    rw [List.map_map, List.map_map]
    apply List.map_congr_left
    intro p _
    simp only [Function.comp, kEq_str, decide_eq_true_eq]
    split <;> rfl
  · simp [kvE]
theorem tput_keys (kvs : List (Str × D)) (k : Str) (v : D) (x : Str) : x ∈ (tput kvs k v).map (·.1) ↔ x = k ∨ x ∈ kvs.map (·.1) := by
  unfold tput
  split
  · rename_i h
    rw [List.map_map]
    have e : ((·.1) ∘ fun p : Str × D => if p.1 = k then (p.1, v) else p) = (·.1) := by
      funext p; simp only [Function.comp]; split <;> rfl
    rw [e]
    obtain ⟨p, hp, hk⟩ := List.any_eq_true.mp h
    simp only [decide_eq_true_eq] at hk
    exact ⟨.inr, fun h => h.elim (fun e => e ▸ hk ▸ List.mem_map_of_mem hp) id⟩
  · simp [or_comm]
theorem tput_nodup {kvs : List (Str × D)} (h : (kvs.map (·.1)).Nodup) (k : Str) (v : D) : ((tput kvs k v).map (·.1)).Nodup := by
  unfold tput
  split
  · rw [List.map_map]
    have e : ((·.1) ∘ fun p : Str × D => if p.1 = k then (p.1, v) else p) = (·.1) := by
      funext p; simp only [Function.comp]; split <;> rfl
    rw [e]; exact h
  · rename_i hn
    rw [List.map_append, List.nodup_append]
    refine ⟨h, by simp, fun x hx y hy => ?_⟩
    simp at hy
    subst hy
    intro e
    subst e
    apply hn
    obtain ⟨p, hp, e⟩ := List.mem_map.mp hx
    exact List.any_eq_true.mpr ⟨p, hp, by simpa using e⟩
theorem dlook_str {kvs : List (Str × D)} {p : Str × D} (hn : (kvs.map (·.1)).Nodup) (h : p ∈ kvs) : dlook (kvE kvs) (.str p.1) = some p.2 := by
  unfold dlook
  induction kvs with
  | nil => cases h
  | cons q kvs ih =>
    have e0 : kvE (q :: kvs) = (D.str q.1, q.2) :: kvE kvs := rfl
    rw [e0, List.find?_cons]
    simp only [kEq_str]
    rw [List.map_cons, List.nodup_cons] at hn
    rcases List.mem_cons.mp h with e | h
    · subst e; simp
    · have : q.1 ≠ p.1 := fun e => hn.1 (e ▸ List.mem_map_of_mem h)
      simp only [this, decide_false]
      exact ih hn.2 h
theorem textsD_tx (l : List Str) : textsD (tx l) = some l := by
  induction l with
  | nil => rfl
  | cons x l ih => simp [textsD, ih]
theorem msD_tx {l : List Str} (hn : l.Nodup) : msD (tx l) = tx (ssT l) := by
  rw [← ssT_eq]
  refine ssD_of (injT_strs l) ?_ ?_ fun y => (List.mergeSort_perm _ _).mem_iff
  · exact (msD_pw (tx l)).imp fun {a b} h => by simpa [leD] using h
  · rw [msD, (List.mergeSort_perm (tx l) leD).nodup_iff]
    unfold List.Nodup at hn ⊢
    rw [List.pairwise_map]
    exact hn.imp fun h e => h (D.str.inj e)
theorem sortD_eq {kvs : List (Str × D)} (hn : (kvs.map (·.1)).Nodup) (hz : kvs.length < 64) : opSortD (.dct (kvE kvs)) = some (.ow (.lst (tx (ssT (kvs.map (·.1)))))) := by
  have e : (kvE kvs).map (·.1) = tx (kvs.map (·.1)) := by simp [kvE, tx]
  unfold opSortD
  simp only [e, textsD_tx, List.length_map, hz, if_true, msD_tx hn]
@[simp] theorem kvE_len (kvs : List (Str × D)) : (kvE kvs).length = kvs.length := by simp [kvE]
/-! ### _law_scheme -/
/-- what the dict of heads holds -/
structure Hd (cols : List Str) (kvs : List (Str × List Str)) : Prop where
  nd : (kvs.map (·.1)).Nodup
  name : ∀ p ∈ kvs, p.1 ∈ headNames
  cne : ∀ p ∈ kvs, p.2 ≠ []
  cfew : ∀ p ∈ kvs, p.2.length ≤ 3
  casc : ∀ p ∈ kvs, Asc (tx p.2)
  sub : ∀ p ∈ kvs, ∀ c ∈ p.2, c ∈ cols
def hE (kvs : List (Str × List Str)) : List (Str × D) := kvs.map fun p => (p.1, D.tup (tx p.2))
def hput (kvs : List (Str × List Str)) (k : Str) (v : List Str) : List (Str × List Str) := if (kvs.any fun p => decide (p.1 = k)) = true then kvs.map (fun p => if p.1 = k then (p.1, v) else p) else kvs ++ [(k, v)]
theorem hput_eq (kvs : List (Str × List Str)) (k : Str) (v : List Str) : tput (hE kvs) k (.tup (tx v)) = hE (hput kvs k v) := by
  unfold tput hput
  have h : ((hE kvs).any fun p => decide (p.1 = k)) = kvs.any fun p => decide (p.1 = k) := by
    unfold hE; rw [List.any_map]; rfl
  rw [h]
  split
  · unfold hE
    rw [List.map_map, List.map_map]
    apply List.map_congr_left
    intro p _
    simp only [Function.comp]
    split <;> rfl
  · simp [hE]
@[simp] theorem hE_len (kvs : List (Str × List Str)) : (hE kvs).length = kvs.length := by simp [hE]
theorem hE_keys (kvs : List (Str × List Str)) : (hE kvs).map (·.1) = kvs.map (·.1) := by simp [hE]
theorem hput_mem {kvs : List (Str × List Str)} {k : Str} {v : List Str} {p : Str × List Str} (h : p ∈ hput kvs k v) : p ∈ kvs ∨ p = (k, v) := by
  unfold hput at h
  split at h
  · obtain ⟨q, hq, e⟩ := List.mem_map.mp h
    split at e
    · rename_i hk; right; rw [← e, ← hk]
    · left; rw [← e]; exact hq
  · rcases List.mem_append.mp h with h | h
    · exact .inl h
    · simp at h; exact .inr h
theorem hput_len (kvs : List (Str × List Str)) (k : Str) (v : List Str) : (hput kvs k v).length ≤ kvs.length + 1 := by
  unfold hput
  split <;> simp
theorem hput_ne (kvs : List (Str × List Str)) (k : Str) (v : List Str) : hput kvs k v ≠ [] := by
  unfold hput
  split
  · rename_i h
    obtain ⟨p, hp, _⟩ := List.any_eq_true.mp h
    exact fun e => by rw [List.map_eq_nil_iff] at e; rw [e] at hp; cases hp
  · simp
theorem Hd.put {cols : List Str} {kvs : List (Str × List Str)} (h : Hd cols kvs) {k : Str} {v : List Str} (hk : k ∈ headNames) (h1 : v ≠ []) (h2 : v.length ≤ 3) (h3 : Asc (tx v)) (h4 : ∀ c ∈ v, c ∈ cols) : Hd cols (hput kvs k v) := by
  refine ⟨?_, fun p hp => ?_, fun p hp => ?_, fun p hp => ?_, fun p hp => ?_, fun p hp => ?_⟩
  · have := tput_nodup (kvs := hE kvs) (by rw [hE_keys]; exact h.nd) k (.tup (tx v))
    rw [hput_eq, hE_keys] at this
    exact this
  · rcases hput_mem hp with q | rfl
    · exact h.name p q
    · exact hk
  · rcases hput_mem hp with q | rfl
    · exact h.cne p q
    · exact h1
  · rcases hput_mem hp with q | rfl
    · exact h.cfew p q
    · exact h2
  · rcases hput_mem hp with q | rfl
    · exact h.casc p q
    · exact h3
  · rcases hput_mem hp with q | rfl
    · exact h.sub p q
    · exact h4
end DL
namespace DL
open PySem PySem.Spec PyProof.Rows L2
noncomputable abbrev scBody : M Dk Fl := (mSeq (mSet 5 (mSl (mUn opSS (mLc (srcRange1 (mOp opAdd (mC (.int 1)) (mCall F__law_next (mCons (mVar 0) (mCons (mC (.int 4)) mNil))))) (.nm 9) [9] mYes (mCall F__law_one (mCons (mVar 0) (mCons (mVar 1) mNil))))) mNoP (mPart (mC (.int 3))))) (mDPut 4 (mCall F__law_one (mCons (mVar 0) (mCons (mLst (mCons (mC (.str "all")) (mCons (mC (.str "bought")) (mCons (mC (.str "had")) (mCons (mC (.str "m")) (mCons (mC (.str "sold")) (mCons (mC (.str "t")) mNil))))))) mNil))) (mUn opTuple (mVar 5))))
def ShOw (s : Option S) (l : List D) : Prop := s = some (.sh (.lst l)) ∨ s = some (.ow (.lst l))
theorem scBody_ok {n : Nat} {g : Dk} {cols : List Str} {dd : D} {s1 x2 x5 : Option S} {kvs : List (Str × List Str)} (hs : ShOw s1 (tx cols)) (hn : cols ≠ []) (hz : cols.length ≤ 1000) (hk : kvs.length ≤ 1000) (ok : Ok (n + 6) g) :
    ∃ k v g', scBody [some (.sh (.obj 0)), s1, x2, some (.sh dd), some (.ow (.dct (kvE (hE kvs)))), x5, none, none, none, none] g = some (.nx, [some (.sh (.obj 0)), some (.sh (.lst (tx cols))), x2, some (.sh dd), some (.ow (.dct (kvE (hE (hput kvs k v))))), some (.ow (.lst (tx v))), none, none, none, none], g') ∧
      k ∈ headNames ∧ v ≠ [] ∧ v.length ≤ 3 ∧ Asc (tx v) ∧ (∀ c ∈ v, c ∈ cols) ∧ Ok n g' := by
  obtain ⟨r, g1, e1, r0, r1, ok1⟩ := next_ok (m := 4) (n := n + 5) ok (by decide) (by decide)
  obtain ⟨acc, s2, g2, e2, l2, m2, ok2, w2⟩ := draws (st0 := [some (.sh (.obj 0)), s1, x2, some (.sh dd), some (.ow (.dct (kvE (hE kvs)))), x5, none, none, none, none]) (v := 9) (j := 1) (names := tx cols) (K := 4) (n := n + 1) (g := g1) (rangeD 0 (1 + r).toNat) (by rw [rangeD_len]; omega) rfl (hs.elim (fun h => .inl (by rw [h]; rfl)) fun h => .inr (by rw [h]; rfl)) rfl (by simpa using hn) (by simpa using hz) (ok1.mono (by omega))
  have w2 := w2 (rangeD_ne (by omega))
  obtain ⟨ts, rfl, ht⟩ := strs_of m2
  have hts : ts.length < 64 := by rw [List.length_map, rangeD_len] at l2; omega
  have htn : ts ≠ [] := fun e => by rw [e, List.length_map, rangeD_len] at l2; simp at l2; omega
  obtain ⟨v, hv⟩ : ∃ v, v = (ssT ts).take 3 := ⟨_, rfl⟩
  have hcut : cutD (tx (ssT ts)) none (some 3) = tx v := by rw [hv]; exact (cut_to (n := 3)).trans List.map_take.symm
  obtain ⟨kd, g3, e3, hkd, ok3⟩ := one_lst (n := n) (g := g2) (ds := tx headDrawn) ok2 (by decide) (by decide)
  obtain ⟨k, hk1, rfl⟩ := List.mem_map.mp hkd
  have hk2 : ∀ x ∈ headDrawn, x ∈ headNames := by decide +kernel
  refine ⟨k, v, g3, ?_, hk2 k hk1, ?_, ?_, ?_, fun c hc => ?_, ok3⟩
  · have rr : okR (1 + r) = true := okR_of (by omega) (by omega)
    have l6 : (6 : Nat) ≤ sizeLine := le_sz (by decide)
    have lk : kvs.length < sizeLine := by rw [sizeLine_eq]; omega
    simp only [tx, headDrawn, List.map_cons, List.map_nil] at e3
    simp only [List.set_cons_succ, List.set_cons_zero] at w2
    simp [scBody, mDPut, mAt, e1, e2, e3, hcut, opSS_lst hts, w2, rr, l6, le_sz, keyD, dput_str, hput_eq, lk]
  · rw [hv]
    have := ssT_ne htn
    cases h : ssT ts with
    | nil => exact absurd h this
    | cons x r => simp
  · rw [hv, List.length_take]; omega
  · rw [← hcut, show cutD (tx (ssT ts)) none (some 3) = (tx (ssT ts)).take 3 from cut_to (n := 3)]; exact (ssT_asc ts).take 3
  · rw [hv] at hc
    exact ht c (ssT_mem.mp (List.mem_of_mem_take hc))
def hlook (kvs : List (Str × List Str)) (k : Str) : List Str := ((kvs.find? fun p => decide (p.1 = k)).map (·.2)).getD []
theorem hlook_mem {kvs : List (Str × List Str)} {k : Str} (h : k ∈ kvs.map (·.1)) : (k, hlook kvs k) ∈ kvs := by
  obtain ⟨p, hp, rfl⟩ := List.mem_map.mp h
  unfold hlook
  cases e : kvs.find? fun q => decide (q.1 = p.1) with
  | none => exact absurd (List.find?_eq_none.mp e p hp) (by simp)
  | some q =>
    have h1 := List.find?_some e
    have h2 := List.mem_of_find?_eq_some e
    simp only [decide_eq_true_eq] at h1
    show (p.1, q.2) ∈ kvs
    rw [← h1]; exact h2
theorem scheme_ok {n : Nat} {g : Dk} (ok : Ok (n + 60) g) : ∃ dl hs g', F__law_scheme [.obj 0] g = some (schE dl hs, g') ∧ Dials dl ∧ Heads dl hs ∧ Ok n g' := by
  obtain ⟨dl, g1, e1, hd, ok1⟩ := dials_ok (n := n + 40) ok
  obtain ⟨cols, hc⟩ : ∃ cols, cols = dl.map (·.1) := ⟨_, rfl⟩
  obtain ⟨dd, hdd⟩ : ∃ dd, dd = D.tup (dl.map dialE) := ⟨_, rfl⟩
  have hcn : cols ≠ [] := by rw [hc]; simpa using hd.ne
  have hcz : cols.length ≤ 1000 := by rw [hc, List.length_map]; have := hd.few; omega
  obtain ⟨s2, e2, w2⟩ : ∃ st', compM (.tp [.nm 6, .nm 7]) [6, 7] mYes (mVar 6) (dl.map dialE) [] [some (.sh (.obj 0)), none, none, some (.sh dd), some (.ow (.dct [])), none, none, none, none, none] g1 = some (((dl.map dialE).filter fun _ => true).map (fun d => match d with | .tup (x :: _) => x | d => d), st', g1) ∧ wipeS st' [6, 7] = [some (.sh (.obj 0)), none, none, some (.sh dd), some (.ow (.dct [])), none, none, none, none, none] := by
    refine compM_pure _ rfl fun d hdm => ?_
    obtain ⟨p, _, rfl⟩ := List.mem_map.mp hdm
    exact ⟨_, rfl, rfl, rfl, fun _ => rfl⟩
  have i2 : (((dl.map dialE).filter fun _ => true).map (fun d => match d with | .tup (x :: _) => x | d => d)) = tx cols := by
    rw [List.filter_eq_self.mpr (fun _ _ => rfl), List.map_map, hc]
    simp only [tx, List.map_map]
    rfl
  rw [i2] at e2
  obtain ⟨r, g2, e3, r0, r1, ok2⟩ := next_ok (m := 4) (n := n + 39) ok1 (by decide) (by decide)
  obtain ⟨s3, g3, e4, x2, x5, s1, kvs, hst, hs1, hkv, hkl, hke, ok3⟩ := forM_rule (p := .nm 2) (body := scBody) (fun i st g => ∃ x2 x5 s1 kvs, st = [some (.sh (.obj 0)), s1, x2, some (.sh dd), some (.ow (.dct (kvE (hE kvs)))), x5, none, none, none, none] ∧ ShOw s1 (tx cols) ∧ Hd cols kvs ∧ kvs.length ≤ i ∧ (0 < i → kvs ≠ []) ∧ (i ≤ 4 → Ok (n + (4 - i) * 6) g)) (rangeD 0 (1 + r).toNat) 0
    [some (.sh (.obj 0)), some (.ow (.lst (tx cols))), none, some (.sh dd), some (.ow (.dct [])), none, none, none, none, none] g2 ⟨none, none, _, [], rfl, .inr rfl, ⟨by simp, by simp, by simp, by simp, by simp, by simp⟩, Nat.zero_le _, by simp, fun _ => ok2.mono (by omega)⟩ fun k d st g e ⟨x2, x5, s1, kvs, hst, hs1, hkv, hkl, hke, hok⟩ => by
      have hkk : k < (rangeD 0 (1 + r).toNat).length := (List.getElem?_eq_some_iff.mp e).1
      rw [rangeD_len] at hkk
      subst hst
      obtain ⟨key, v, g4, eb, hk1, hv1, hv2, hv3, hv4, okb⟩ := scBody_ok (n := n + (4 - (0 + k + 1)) * 6) (g := g) (cols := cols) (dd := dd) (x2 := some (.sh d)) (x5 := x5) (kvs := kvs) hs1 hcn hcz (by omega) (by have := hok (by omega); exact this.mono (by omega))
      exact ⟨_, rfl, _, g4, eb, some (.sh d), _, _, _, rfl, .inl rfl, hkv.put hk1 hv1 hv2 hv3 hv4, by have := hput_len kvs key v; omega, fun _ => hput_ne _ _ _, fun _ => okb⟩
  rw [rangeD_len] at hkl hke ok3
  subst hst
  obtain ⟨names, hnm⟩ : ∃ names, names = ssT (kvs.map (·.1)) := ⟨_, rfl⟩
  have hnn : ((hE kvs).map (·.1)).Nodup := by rw [hE_keys]; exact hkv.nd
  have hmem : ∀ x ∈ names, x ∈ kvs.map (·.1) := fun x hx => by rw [hnm] at hx; exact ssT_mem.mp hx
  have hlk : ∀ x ∈ names, dlook (kvE (hE kvs)) (.str x) = some (.tup (tx (hlook kvs x))) := fun x hx => by
    have := hlook_mem (hmem x hx)
    exact dlook_str (p := (x, .tup (tx (hlook kvs x)))) hnn (List.mem_map.mpr ⟨_, this, rfl⟩)
  obtain ⟨s5, e5, w5⟩ : ∃ st', compM (.nm 8) [8] mYes (mTup (mCons (mVar 8) (mCons (mOp opIx (mVar 4) (mVar 8)) mNil))) (tx names) [] [some (.sh (.obj 0)), s1, x2, some (.sh dd), some (.ow (.dct (kvE (hE kvs)))), x5, none, none, none, none] g3 = some (((tx names).filter fun _ => true).map (fun d => match d with | .str x => headE (x, hlook kvs x) | d => d), st', g3) ∧ wipeS st' [8] = [some (.sh (.obj 0)), s1, x2, some (.sh dd), some (.ow (.dct (kvE (hE kvs)))), x5, none, none, none, none] := by
    refine compM_pure _ rfl fun d hdm => ?_
    obtain ⟨x, hx, rfl⟩ := List.mem_map.mp hdm
    refine ⟨_, rfl, rfl, rfl, fun _ => ?_⟩
    simp [hlk x hx, headE, le_sz]
  have i5 : (((tx names).filter fun _ => true).map (fun d => match d with | .str x => headE (x, hlook kvs x) | d => d)) = (names.map fun x => (x, hlook kvs x)).map headE := by
    rw [List.filter_eq_self.mpr (fun _ _ => rfl), List.map_map, List.map_map]
    rfl
  rw [i5] at e5
  have hin : ∀ p ∈ names.map (fun x => (x, hlook kvs x)), p ∈ kvs := fun p hp => by
    obtain ⟨x, hx, rfl⟩ := List.mem_map.mp hp
    exact hlook_mem (hmem x hx)
  refine ⟨dl, names.map fun x => (x, hlook kvs x), g3, mFn_run rfl ?_, hd, ⟨?_, ?_, ?_, fun p hp => hkv.name p (hin p hp), fun p hp => hkv.cne p (hin p hp), fun p hp => hkv.cfew p (hin p hp), fun p hp => hkv.casc p (hin p hp), fun p hp => by rw [← hc]; exact hkv.sub p (hin p hp)⟩, (ok3 (by omega)).mono (by omega)⟩
  · have rr : okR (1 + r) = true := okR_of (by omega) (by omega)
    have so : opSortD (.dct (kvE (hE kvs))) = some (.ow (.lst (tx names))) := by
      rw [sortD_eq hnn (by rw [hE_len]; omega), hE_keys, hnm]
    show (B__law_scheme [some (.sh (.obj 0)), none, none, none, none, none, none, none, none, none] g).map _ = _
    rw [hdd] at e2 w2 e4 e5 w5
    simp [B__law_scheme, e1, e2, w2, e3, rr, e4, so, e5, le_sz, schE]
  · intro e
    rw [List.map_eq_nil_iff] at e
    rw [hnm] at e
    exact ssT_ne (l := kvs.map (·.1)) (by simpa using hke (by omega)) e
  · rw [List.length_map, hnm]
    have := ssT_len (kvs.map (·.1))
    rw [List.length_map] at this
    omega
  · rw [List.map_map]
    have : ((·.1) ∘ fun x => (x, hlook kvs x)) = (id : Str → Str) := rfl
    rw [this, List.map_id, hnm]
    exact ssT_asc _
end DL
namespace DL
open PySem PySem.Spec PyProof.Rows L2
/-! ### texts in tuples of texts -/
theorem eqv_str (a b : Str) : PyData.eqv (.str a) (.str b) = decide (a = b) := by
  simp [PyData.eqv]
  rfl
theorem pls_tx : ∀ l : List Str, D.pls (tx l) = true
  | [] => rfl
  | x :: l => by simp only [tx, List.map_cons, D.pls, D.pl, Bool.true_and]; exact pls_tx l
theorem inD_tx (t : Str) (l : List Str) : inD (.str t) (tx l) = decide (t ∈ l) := by
  unfold inD
  rw [List.any_map]
  induction l with
  | nil => simp
  | cons x l ih =>
    rw [List.any_cons, ih]
    simp only [Function.comp, eqD, D.py, eqv_str, List.mem_cons]
    by_cases h : x = t
    · subst h; simp
    · have h' : ¬ t = x := fun e => h e.symm
      simp [h, h']
theorem okIn_tx (t : Str) (l : List Str) : okIn (.str t) (tx l) = true := by
  have : min (PyData.depthAll (D.pys (tx l))) (D.py (.str t)).depth ≤ 100 := Nat.le_trans (Nat.min_le_right _ _) (by simp [D.py, PyData.depth])
  simp [okIn, D.pl, pls_tx, this]
theorem opIn_tup (neg : Bool) (t : Str) (l : List Str) : opIn neg (.str t) (.tup (tx l)) = some (.sh (.bl (neg ^^ decide (t ∈ l)))) := by
  simp only [opIn, okIn_tx, if_true, inD_tx]
/-! ### frames -/
structure Frame (hs : List (Str × List Str)) (fr : List Str) : Prop where
  ne : fr ≠ []
  asc : Asc (tx fr)
  sub : ∀ x ∈ fr, x ∈ hs.map (·.1)
  few : fr.length ≤ 10
end DL
namespace DL
open PySem PySem.Spec PyProof.Rows L2
/-! ### columns of frames -/
def colsL (hs : List (Str × List Str)) (fr : List Str) : List Str := ssT ((hs.filter fun p => decide (p.1 ∈ fr)).flatMap (·.2))
noncomputable abbrev lcBody : M Dk Fl := (mIf (mTest (mOp (opIn false) (mVar 3) (mVar 1))) (mDrop (mMethL 2 opExt (mVar 4))) mNext)
theorem lawColumns_eq {dl : List (Str × Str)} {hs : List (Str × List Str)} {fr : List Str} {g : Dk} (hh : Heads dl hs) : F__law_columns [schE dl hs, .tup (tx fr)] g = some (.tup (tx (colsL hs fr)), g) := by
  obtain ⟨st, g', e, x3, x4, hst, hg⟩ := forM_rule (p := .tp [.nm 3, .nm 4]) (body := lcBody) (fun i st g' => ∃ x3 x4, st = [some (.sh (schE dl hs)), some (.sh (.tup (tx fr))), some (.ow (.lst (tx (((hs.take i).filter fun p => decide (p.1 ∈ fr)).flatMap (·.2))))), x3, x4] ∧ g' = g) (hs.map headE) 0
    [some (.sh (schE dl hs)), some (.sh (.tup (tx fr))), some (.ow (.lst [])), none, none] g ⟨none, none, rfl, rfl⟩ fun k d st g' e ⟨x3, x4, hst, hg⟩ => by
      subst hg hst
      rw [List.getElem?_map] at e
      obtain ⟨p, ep, rfl⟩ := Option.map_eq_some_iff.mp e
      have hk : k < hs.length := (List.getElem?_eq_some_iff.mp ep).1
      have hp : p ∈ hs := List.mem_of_getElem? ep
      have hlen : (((hs.take k).filter fun p => decide (p.1 ∈ fr)).flatMap (·.2)).length ≤ 3 * k := by
        have : ∀ l : List (Str × List Str), (∀ p ∈ l, p.2.length ≤ 3) → (l.flatMap (·.2)).length ≤ 3 * l.length := by
          intro l
          induction l with
          | nil => intro _; simp
          | cons q l ih =>
            intro h
            rw [List.flatMap_cons, List.length_append, List.length_cons]
            have := h q List.mem_cons_self
            have := ih fun p hp => h p (List.mem_cons_of_mem _ hp)
            omega
        refine Nat.le_trans (this _ fun p hp => hh.cfew p (List.mem_of_mem_take (List.mem_filter.mp hp).1)) ?_
        have := List.length_filter_le (fun p : Str × List Str => decide (p.1 ∈ fr)) (hs.take k)
        rw [List.length_take] at this
        omega
      have hf := hh.few
      have hc := hh.cfew p hp
      have hle : (((hs.take k).filter fun p => decide (p.1 ∈ fr)).flatMap (·.2)).length + p.2.length ≤ sizeLine := le_sz (by omega)
      have key : ∀ fnd : List Str, fnd.length + p.2.length ≤ sizeLine → p.1 ∈ fr → lcBody [some (.sh (schE dl hs)), some (.sh (.tup (tx fr))), some (.ow (.lst (tx fnd))), some (.sh (.str p.1)), some (.sh (.tup (tx p.2)))] g' = some (.nx, [some (.sh (schE dl hs)), some (.sh (.tup (tx fr))), some (.ow (.lst (tx (fnd ++ p.2)))), some (.sh (.str p.1)), some (.sh (.tup (tx p.2)))], g') := fun fnd hl hm => by
        simp [lcBody, opIn_tup, hm, mMethL, mAtL, opExt, hl]
      have key2 : ∀ fnd : List Str, p.1 ∉ fr → lcBody [some (.sh (schE dl hs)), some (.sh (.tup (tx fr))), some (.ow (.lst (tx fnd))), some (.sh (.str p.1)), some (.sh (.tup (tx p.2)))] g' = some (.nx, [some (.sh (schE dl hs)), some (.sh (.tup (tx fr))), some (.ow (.lst (tx fnd))), some (.sh (.str p.1)), some (.sh (.tup (tx p.2)))], g') := fun fnd hm => by
        simp [lcBody, opIn_tup, hm]
      refine ⟨_, rfl, ?_⟩
      rw [show 0 + k + 1 = k + 1 by omega, List.take_add_one, ep, show 0 + k = k by omega]
      by_cases hm : p.1 ∈ fr
      · refine ⟨_, g', key _ hle hm, some (.sh (.str p.1)), some (.sh (.tup (tx p.2))), ?_, rfl⟩
        simp [hm]
      · refine ⟨_, g', key2 _ hm, some (.sh (.str p.1)), some (.sh (.tup (tx p.2))), ?_, rfl⟩
        simp [hm]
  have hz : (((hs.take (0 + (hs.map headE).length)).filter fun p => decide (p.1 ∈ fr)).flatMap (·.2)) = ((hs.filter fun p => decide (p.1 ∈ fr)).flatMap (·.2)) := by
    rw [List.take_of_length_le (by simp)]
  rw [hst, hg, hz] at e
  have hlen : ((hs.filter fun p => decide (p.1 ∈ fr)).flatMap (·.2)).length < 64 := by
    have : ∀ l : List (Str × List Str), (∀ p ∈ l, p.2.length ≤ 3) → (l.flatMap (·.2)).length ≤ 3 * l.length := by
      intro l
      induction l with
      | nil => intro _; simp
      | cons q l ih =>
        intro h
        rw [List.flatMap_cons, List.length_append, List.length_cons]
        have := h q List.mem_cons_self
        have := ih fun p hp => h p (List.mem_cons_of_mem _ hp)
        omega
    have h1 := this (hs.filter fun p => decide (p.1 ∈ fr)) fun p hp => hh.cfew p (List.mem_filter.mp hp).1
    have h2 := List.length_filter_le (fun p : Str × List Str => decide (p.1 ∈ fr)) hs
    have := hh.few
    omega
  refine mFn_run rfl ?_
  show (B__law_columns [some (.sh (schE dl hs)), some (.sh (.tup (tx fr))), none, none, none] g).map _ = _
  have os := opSS_lst hlen
  unfold schE at e ⊢
  simp [B__law_columns, e, os, colsL]
/-! the program's -/
theorem pairsD_heads (hs : List (Str × List Str)) : pairsD (hs.map headE) = some (kvE (hE hs)) := by
  induction hs with
  | nil => rfl
  | cons p hs ih =>
    rw [List.map_cons]
    simp only [headE, pairsD, keyD]
    rw [show (List.map headE hs) = hs.map headE from rfl, ih]
    rfl
theorem merge_nodup (kvs : List (Str × D)) (hn : (kvs.map (·.1)).Nodup) : mergeD (kvE kvs) = kvE kvs := by
  have gen : ∀ (l acc : List (Str × D)), ((acc ++ l).map (·.1)).Nodup → (kvE l).foldl (fun acc p => dput acc p.1 p.2) (kvE acc) = kvE (acc ++ l) := by
    intro l
    induction l with
    | nil => intro acc _; simp [kvE]
    | cons p l ih =>
      intro acc h
      have e : kvE (p :: l) = (D.str p.1, p.2) :: kvE l := rfl
      rw [e, List.foldl_cons]
      have hni : ¬ (acc.any fun q => decide (q.1 = p.1)) = true := fun ha => by
        obtain ⟨q, hq, hqe⟩ := List.any_eq_true.mp ha
        simp only [decide_eq_true_eq] at hqe
        rw [List.map_append, List.map_cons, List.nodup_append] at h
        exact h.2.2 q.1 (List.mem_map_of_mem hq) p.1 List.mem_cons_self hqe
      have e2 : dput (kvE acc) (.str p.1) p.2 = kvE (acc ++ [p]) := by
        rw [dput_str]
        unfold tput
        rw [if_neg hni]
      show List.foldl _ (dput (kvE acc) (.str p.1) p.2) _ = _
      rw [e2, ih (acc ++ [p]) (by rw [List.append_assoc]; exact h), List.append_assoc]
      rfl
  have := gen kvs [] (by simpa using hn)
  simpa [mergeD, kvE] using this
theorem asc_nodup {l : List Str} (h : Asc (tx l)) : l.Nodup := by
  unfold Asc at h
  rw [tx, List.pairwise_map] at h
  exact h.imp fun {a b} hab e => by subst e; rw [ltD_irr] at hab; cases hab
theorem columnsIn_eq {dl : List (Str × Str)} {hs : List (Str × List Str)} {t : Str} {g : Dk} (hh : Heads dl hs) (ht : t ∈ hs.map (·.1)) : F_columns_in [schE dl hs, .str t] g = some (.tup (tx (hlook hs t)), g) := by
  have hnn : ((hE hs).map (·.1)).Nodup := by rw [hE_keys]; exact asc_nodup hh.asc
  have lk : dlook (kvE (hE hs)) (.str t) = some (.tup (tx (hlook hs t))) := dlook_str (p := (t, .tup (tx (hlook hs t)))) hnn (List.mem_map.mpr ⟨_, hlook_mem ht, rfl⟩)
  refine mFn_run rfl ?_
  show (B_columns_in [some (.sh (schE dl hs)), some (.sh (.str t))] g).map _ = _
  unfold schE
  simp [B_columns_in, opDict, pairsD_heads, merge_nodup _ hnn, lk]
def colsP (hs : List (Str × List Str)) (fr : List Str) : List Str := ssT (fr.flatMap (hlook hs))
noncomputable abbrev pcBody : M Dk Fl := (mDrop (mMethL 2 opExt (mCall F_columns_in (mCons (mVar 0) (mCons (mVar 3) mNil)))))
theorem columnsOf_eq {dl : List (Str × Str)} {hs : List (Str × List Str)} {fr : List Str} {g : Dk} (hh : Heads dl hs) (hf : ∀ x ∈ fr, x ∈ hs.map (·.1)) (hz : fr.length ≤ 10) : F_columns_of [schE dl hs, .tup (tx fr)] g = some (.tup (tx (colsP hs fr)), g) := by
  have three : ∀ x ∈ fr, (hlook hs x).length ≤ 3 := fun x hx => hh.cfew _ (hlook_mem (hf x hx))
  have sum : ∀ l : List Str, (∀ x ∈ l, (hlook hs x).length ≤ 3) → (l.flatMap (hlook hs)).length ≤ 3 * l.length := by
    intro l
    induction l with
    | nil => intro _; simp
    | cons q l ih =>
      intro h
      rw [List.flatMap_cons, List.length_append, List.length_cons]
      have := h q List.mem_cons_self
      have := ih fun p hp => h p (List.mem_cons_of_mem _ hp)
      omega
  obtain ⟨st, g', e, x3, hst, hg⟩ := forM_rule (p := .nm 3) (body := pcBody) (fun i st g' => ∃ x3, st = [some (.sh (schE dl hs)), some (.sh (.tup (tx fr))), some (.ow (.lst (tx ((fr.take i).flatMap (hlook hs))))), x3] ∧ g' = g) (tx fr) 0
    [some (.sh (schE dl hs)), some (.sh (.tup (tx fr))), some (.ow (.lst [])), none] g ⟨none, rfl, rfl⟩ fun k d st g' e ⟨x3, hst, hg⟩ => by
      subst hg hst
      rw [List.getElem?_map] at e
      obtain ⟨t, et, rfl⟩ := Option.map_eq_some_iff.mp e
      have hk : k < fr.length := (List.getElem?_eq_some_iff.mp et).1
      have ht : t ∈ fr := List.mem_of_getElem? et
      have hl := sum (fr.take k) fun x hx => three x (List.mem_of_mem_take hx)
      rw [List.length_take] at hl
      have h3 := three t ht
      have hle : ((fr.take k).flatMap (hlook hs)).length + (hlook hs t).length ≤ sizeLine := le_sz (by omega)
      have ci := columnsIn_eq (g := g') hh (hf t ht)
      have key : ∀ fnd : List Str, fnd.length + (hlook hs t).length ≤ sizeLine → pcBody [some (.sh (schE dl hs)), some (.sh (.tup (tx fr))), some (.ow (.lst (tx fnd))), some (.sh (.str t))] g' = some (.nx, [some (.sh (schE dl hs)), some (.sh (.tup (tx fr))), some (.ow (.lst (tx (fnd ++ hlook hs t)))), some (.sh (.str t))], g') := fun fnd hl => by
        simp [pcBody, mMethL, mAtL, ci, opExt, hl]
      rw [show 0 + k + 1 = k + 1 by omega, List.take_add_one, et, show 0 + k = k by omega]
      refine ⟨_, rfl, _, g', key _ hle, some (.sh (.str t)), ?_, rfl⟩
      simp
  have hz2 : ((fr.take (0 + (tx fr).length)).flatMap (hlook hs)) = fr.flatMap (hlook hs) := by rw [List.take_of_length_le (by simp)]
  rw [hst, hg, hz2] at e
  have hlen : (fr.flatMap (hlook hs)).length < 64 := by have := sum fr three; omega
  refine mFn_run rfl ?_
  show (B_columns_of [some (.sh (schE dl hs)), some (.sh (.tup (tx fr))), none, none] g).map _ = _
  have os := opSS_lst hlen
  simp [B_columns_of, e, os, colsP]
theorem cols_same {dl : List (Str × Str)} {hs : List (Str × List Str)} {fr : List Str} (hh : Heads dl hs) (hf : ∀ x ∈ fr, x ∈ hs.map (·.1)) : colsP hs fr = colsL hs fr := by
  refine ssT_ext fun x => ?_
  rw [List.mem_flatMap, List.mem_flatMap]
  constructor
  · rintro ⟨t, ht, hx⟩
    exact ⟨(t, hlook hs t), List.mem_filter.mpr ⟨hlook_mem (hf t ht), by simpa using ht⟩, hx⟩
  · rintro ⟨p, hp, hx⟩
    obtain ⟨hp1, hp2⟩ := List.mem_filter.mp hp
    simp only [decide_eq_true_eq] at hp2
    refine ⟨p.1, hp2, ?_⟩
    have h1 := hlook_mem (kvs := hs) (k := p.1) (List.mem_map_of_mem hp1)
    have nd := asc_nodup hh.asc
    have : hlook hs p.1 = p.2 := by
      have uniq : ∀ (l : List (Str × List Str)), (l.map (·.1)).Nodup → ∀ a b, a ∈ l → b ∈ l → a.1 = b.1 → a = b := by
        intro l
        induction l with
        | nil => intro _ a b ha; cases ha
        | cons q l ih =>
          intro hn a b ha hb hab
          rw [List.map_cons, List.nodup_cons] at hn
          rcases List.mem_cons.mp ha with ea | ha'
          · rcases List.mem_cons.mp hb with eb | hb'
            · rw [ea, eb]
            · rw [ea] at hab
              exact absurd (hab ▸ List.mem_map_of_mem (f := fun x : Str × List Str => x.1) hb') hn.1
          · rcases List.mem_cons.mp hb with eb | hb'
            · rw [eb] at hab
              exact absurd (hab ▸ List.mem_map_of_mem (f := fun x : Str × List Str => x.1) ha') hn.1
            · exact ih hn.2 a b ha' hb' hab
      have := uniq hs nd _ _ h1 hp1 rfl
      exact congrArg Prod.snd this
    rw [this]; exact hx
theorem cols_in {dl : List (Str × Str)} {hs : List (Str × List Str)} {fr : List Str} (hh : Heads dl hs) : ∀ c ∈ colsL hs fr, c ∈ dl.map (·.1) := fun c hc => by
  obtain ⟨p, hp, hx⟩ := List.mem_flatMap.mp (ssT_mem.mp hc)
  exact hh.sub p (List.mem_filter.mp hp).1 c hx
end DL
namespace DL
open PySem PySem.Spec PyProof.Rows L2
section
variable {G : Type} {st : Sl} {g : G} {a b c : M G S} {f f' : D → D → Option S} {s t : S} {d e : D}
def kCh3 (f' : D → D → Option S) (c : M G S) (y : S) (st : Sl) (g : G) : Option S → Option (S × Sl × G)
  | some (.sh (.bl true)) => thn (c st g) (kOpB f' y) .u
  | some (.sh (.bl false)) => some (.sh (.bl false), st, g)
  | _ => none
@[simp] theorem kCh3_t : kCh3 f' c t st g (some (.sh (.bl true))) = thn (c st g) (kOpB f' t) .u := nr rfl
@[simp] theorem kCh3_f : kCh3 f' c t st g (some (.sh (.bl false))) = some (.sh (.bl false), st, g) := nr rfl
@[simp] theorem kCh3_d {P : Prop} [Decidable P] : kCh3 f' c t st g (some (.sh (.bl (decide P)))) = if P then thn (c st g) (kOpB f' t) .u else some (.sh (.bl false), st, g) := by by_cases h : P <;> simp [h]
@[simp] theorem kCh3_n {P : Prop} [Decidable P] : kCh3 f' c t st g (some (.sh (.bl (!decide P)))) = if P then some (.sh (.bl false), st, g) else thn (c st g) (kOpB f' t) .u := by by_cases h : P <;> simp [h]
def kCh2 (f f' : D → D → Option S) (c : M G S) (y : S) (dx : D) (st : Sl) (g : G) : Option D → Option (S × Sl × G)
  | some dy => kCh3 f' c y st g (f dx dy)
  | none => none
@[simp] theorem kCh2_some : kCh2 f f' c t d st g (some e) = kCh3 f' c t st g (f d e) := nr rfl
def kCh1 (f f' : D → D → Option S) (c : M G S) (y : S) (st : Sl) (g : G) : Option D → Option (S × Sl × G)
  | some dx => kCh2 f f' c y dx st g (peek y st)
  | none => none
@[simp] theorem kCh1_some : kCh1 f f' c t st g (some d) = kCh2 f f' c t d st g (peek t st) := nr rfl
def kChB (f f' : D → D → Option S) (c : M G S) (x y : S) (st : Sl) (g : G) : Option (S × Sl × G) := kCh1 f f' c y st g (peek x st)
@[simp] theorem kChB_eq : kChB f f' c s t st g = kCh1 f f' c t st g (peek s st) := nr rfl
def kChA (f f' : D → D → Option S) (b c : M G S) (x : S) (st : Sl) (g : G) : Option (S × Sl × G) := thn (b st g) (kChB f f' c x) .u
@[simp] theorem kChA_eq : kChA f f' b c s st g = thn (b st g) (kChB f f' c s) .u := nr rfl
@[simp] theorem r_chain : mChain f f' a b c st g = thn (a st g) (kChA f f' b c) .u := nr (by
  unfold mChain thn kChA; congr 1; funext x st g
  unfold thn; congr 1; funext y st g
  unfold kChB kCh1 kCh2
  cases peek x st with
  | none => rfl
  | some dx =>
    cases e : peek y st with
    | none => rfl
    | some dy =>
      simp only [Option.bind_some]
      cases f dx dy with
      | none => rfl
      | some z =>
        simp only [Option.bind_some]
        unfold kCh3
        cases z with
        | sh d =>
          cases d with
          | bl b =>
            cases b with
            | false => rfl
            | true =>
              show bnd _ _ = bnd _ _
              congr 1
              funext w st g
              unfold kOpB kOp1 kOp2 kRes
              cases peek y st with
              | none => rfl
              | some d1 => cases peek w st <;> rfl
          | _ => rfl
        | _ => rfl)
end
/-! ### names -/
def LETT : Str := "abcdefghijklmnopqrstuvwxyz"
def signB : D → Bool
  | .str s => subStr s LETT
  | _ => false
def nameB : D → Bool
  | .str x => decide (1 ≤ x.length) && decide (x.length ≤ 6) && (chars x).all signB
  | _ => false
/-! ### data that may be looked at -/
end DL
namespace DL
open PySem PySem.Spec PyProof.Rows L2
/-! ### how a run goes on -/
section
variable {G : Type} {st : Sl} {g : G} {a b c : M G S} {u : M G (List D)} {s t : S} {d e : D} {ds : List D} {i j : Nat} {F : Fn G} {pm : List Nat} {p : Pt}
def kShr (d : D) (st : Sl) (g : G) : Option (S × Sl × G) := some (.sh d, st, g)
@[simp] theorem kShr_eq : kShr d st g = some (.sh d, st, g) := nr rfl
@[simp] theorem r_shr : mShr a st g = thn (mTake a st g) kShr .u := nr rfl
def kCallK (pm : List Nat) (F : Fn G) (ds : List D) (st : Sl) (g : G) : Option (S × Sl × G) := kOut st (F (permD pm ds) g)
@[simp] theorem kCallK_eq : kCallK pm F ds st g = kOut st (F (permD pm ds) g) := nr rfl
@[simp] theorem r_callK : mCallK pm F u st g = thn (u st g) (kCallK pm F) .u := nr (by
  unfold mCallK thn; congr 1; funext ds st g
  unfold kCallK kOut
  cases F (permD pm ds) g <;> rfl)
@[simp] theorem permD_nil : permD [] ds = [] := nr rfl
@[simp] theorem permD_cons : permD (i :: pm) ds = ds.getD i .non :: permD pm ds := nr rfl
def kUnp1 (g : G) : Option Sl → Option (Fl × Sl × G)
  | some st => some (.nx, st, g)
  | none => none
@[simp] theorem kUnp1_some : kUnp1 g (some st) = some (.nx, st, g) := nr rfl
def kUnp (p : Pt) (d : D) (st : Sl) (g : G) : Option (Fl × Sl × G) := kUnp1 g (asg p d st)
@[simp] theorem kUnp_eq : kUnp p d st g = kUnp1 g (asg p d st) := nr rfl
@[simp] theorem r_unp : mUnp p a st g = thn (mTake a st g) (kUnp p) .u := nr (by
  unfold mUnp thn; congr 1; funext d st g
  unfold kUnp kUnp1
  cases asg p d st <;> rfl)
@[simp] theorem asg_nm : asg (.nm i) d st = if i < st.length then some (st.set i (some (.sh d))) else none := by simp only [asg]
def asgK (ps : List Pt) (ds : List D) : Option Sl → Option Sl
  | some st => asgs ps ds st
  | none => none
@[simp] theorem asgK_some {ps : List Pt} : asgK ps ds (some st) = asgs ps ds st := nr rfl
@[simp] theorem asg_tp {ps : List Pt} : asg (.tp ps) (.tup ds) st = asgs ps ds st := by simp only [asg]
@[simp] theorem asgs_nil : asgs [] [] st = some st := by simp only [asgs]
@[simp] theorem asgs_cons {ps : List Pt} : asgs (p :: ps) (d :: ds) st = asgK ps ds (asg p d st) := by
  simp only [asgs]
  cases asg p d st <;> rfl
def kAtL (i : Nat) (st : Sl) (g : G) : Option (Option S) → Option (S × Sl × G)
  | some (some (.ow (.lst _))) => some (.at i, st, g)
  | _ => none
@[simp] theorem kAtL_ow : kAtL i st g (some (some (.ow (.lst ds)))) = some (.at i, st, g) := nr rfl
@[simp] theorem r_atL : (mAtL i : M G S) st g = kAtL i st g st[i]? := nr (by
  unfold mAtL kAtL
  generalize st[i]? = o
  exact match o with
    | none => rfl
    | some none => rfl
    | some (some s) => by
      cases s with
      | ow d => cases d <;> rfl
      | _ => rfl)
def kMl3 (i : Nat) (st : Sl) (g : G) : Option D → Option (S × Sl × G)
  | some e => some (.sh .non, st.set i (some (.ow e)), g)
  | none => none
@[simp] theorem kMl3_some : kMl3 i st g (some e) = some (.sh .non, st.set i (some (.ow e)), g) := nr rfl
def kMl2 (i : Nat) (op : D → D → Option D) (d : D) (st : Sl) (g : G) : Option (Option S) → Option (S × Sl × G)
  | some (some (.ow e)) => kMl3 i st g (op e d)
  | _ => none
@[simp] theorem kMl2_ow {op : D → D → Option D} : kMl2 i op d st g (some (some (.ow e))) = kMl3 i st g (op e d) := nr rfl
def kMl1 (i : Nat) (op : D → D → Option D) (d : D) (st : Sl) (g : G) : Option (S × Sl × G) := kMl2 i op d st g st[i]?
@[simp] theorem kMl1_eq {op : D → D → Option D} : kMl1 i op d st g = kMl2 i op d st g st[i]? := nr rfl
def kMl (i : Nat) (op : D → D → Option D) (a : M G S) (_ : S) (st : Sl) (g : G) : Option (S × Sl × G) := thn (mTake a st g) (kMl1 i op) .u
@[simp] theorem kMl_eq {op : D → D → Option D} : kMl i op a s st g = thn (mTake a st g) (kMl1 i op) .u := nr rfl
@[simp] theorem r_methL {op : D → D → Option D} : mMethL i op a st g = thn (mAtL i st g) (kMl i op a) .u := nr (by
  unfold mMethL thn kMl; congr 1; funext x st g
  unfold thn kMl1; congr 1; funext d st g
  unfold kMl2
  generalize st[i]? = o
  exact match o with
    | none => rfl
    | some none => rfl
    | some (some s) => by
      cases s with
      | ow e => show Option.map _ _ = kMl3 i st g (op e d); cases op e d <;> rfl
      | _ => rfl)
def kZip (ds : List D) (st : Sl) (g : G) : Option ((List D × List S) × Sl × G) := match ds with
  | [.lst xs, .lst ys] => some ((zipD xs ys, [.sh (.lst xs), .sh (.lst ys)]), st, g)
  | [.tup xs, .tup ys] => some ((zipD xs ys, [.sh (.tup xs), .sh (.tup ys)]), st, g)
  | _ => none
@[simp] theorem kZip_ll {xs ys : List D} : kZip [.lst xs, .lst ys] st g = some ((zipD xs ys, [.sh (.lst xs), .sh (.lst ys)]), st, g) := nr rfl
@[simp] theorem kZip_tt {xs ys : List D} : kZip [.tup xs, .tup ys] st g = some ((zipD xs ys, [.sh (.tup xs), .sh (.tup ys)]), st, g) := nr rfl
@[simp] theorem r_zip : srcZip u st g = thn (u st g) kZip .u := nr rfl
def kEnum : D → Sl → G → Option ((List D × List S) × Sl × G)
  | .lst ds, st, g => some ((enumD ds, [.sh (.lst ds)]), st, g)
  | _, _, _ => none
@[simp] theorem kEnum_l : kEnum (.lst ds) st g = some ((enumD ds, [.sh (.lst ds)]), st, g) := nr rfl
@[simp] theorem r_enum : srcEnum a st g = thn (mTake a st g) kEnum .u := nr (by
  unfold srcEnum thn; congr 1; funext d st g
  cases d <;> rfl)
def okR2 (i j : Int) : Bool := decide ((-(2 ^ 62) ≤ i ∧ i < 2 ^ 62) ∧ (-(2 ^ 62) ≤ j ∧ j < 2 ^ 62) ∧ (j - i).toNat ≤ sizeLine)
def kR22 : D → D → Sl → G → Option ((List D × List S) × Sl × G)
  | .int i, .int j, st, g => if okR2 i j = true then some ((rangeD i (j - i).toNat, []), st, g) else none
  | _, _, _, _ => none
@[simp] theorem kR22_int {i j : Int} (h : okR2 i j = true) : kR22 (.int i) (.int j) st g = some ((rangeD i (j - i).toNat, []), st, g) := by simp only [kR22, h, if_true]
def kR21 (b : M G S) (d : D) (st : Sl) (g : G) : Option ((List D × List S) × Sl × G) := thn (mTake b st g) (kR22 d) .u
@[simp] theorem kR21_eq : kR21 b d st g = thn (mTake b st g) (kR22 d) .u := nr rfl
@[simp] theorem r_srcR2 : srcRange2 a b st g = thn (mTake a st g) (kR21 b) .u := nr (by
  unfold srcRange2 thn kR21; congr 1; funext d st g
  unfold thn; congr 1; funext e st g
  cases d <;> cases e <;> simp only [kR22, okR2, decide_eq_true_eq])
end
@[simp] theorem wipeS_nil {st : Sl} : wipeS st [] = st := nr rfl
@[simp] theorem wipeS_cons {st : Sl} {i : Nat} {vs : List Nat} : wipeS st (i :: vs) = (wipeS st vs).set i none := nr rfl
/-- it ends, and so -/
def wp {α β : Type} (r : Option (α × β × Dk)) (Q : α → β → Dk → Prop) : Prop := ∃ a b g, r = some (a, b, g) ∧ Q a b g
theorem wp_some {α β : Type} {a : α} {b : β} {g : Dk} {Q : α → β → Dk → Prop} (h : Q a b g) : wp (some (a, b, g)) Q := ⟨a, b, g, rfl, h⟩
@[simp] theorem wp_some_iff {α β : Type} {a : α} {b : β} {g : Dk} {Q : α → β → Dk → Prop} : wp (some (a, b, g)) Q ↔ Q a b g := ⟨fun ⟨_, _, _, e, h⟩ => by cases e; exact h, wp_some⟩
theorem wp_thn {α β γ : Type} {x : Option (α × Sl × Dk)} {k : α → Sl → Dk → Option (γ × β × Dk)} {u : UnitOf k} {Q : γ → β → Dk → Prop} (h : wp x fun a st g => wp (k a st g) Q) : wp (thn x k u) Q := by
  obtain ⟨a, st, g, rfl, h⟩ := h
  exact h
theorem mFn_wp {n m : Nat} {b : M Dk Fl} {ds : List D} {g : Dk} {Q : D → Dk → Prop} (hl : ds.length = n) (h : wp (b (ds.map (fun d => some (.sh d)) ++ List.replicate (m - n) none) g) fun fl _ g' => ∃ d, fl = .rt d ∧ Q d g') : ∃ d g', mFn n m b ds g = some (d, g') ∧ Q d g' := by
  obtain ⟨fl, st, g', e, d, rfl, q⟩ := h
  exact ⟨d, g', mFn_rt hl e, q⟩
/-- a comprehension whose parts draw nothing and keep the slots -/
theorem lc_pure1 {α : Type} {src : M Dk (List D × List S)} {p : Pt} {vs : List Nat} {test : M Dk Bool} {elt : M Dk S} {st st1 w0 : Sl} {g : Dk} {cells : List S} (l : List α) (enc : α → D) (f : α → Bool) (h : α → D)
    (hsrc : src st g = some ((l.map enc, cells), st1, g)) (hw : wipeS st1 vs = w0)
    (hs : ∀ a ∈ l, ∃ st2, asg p (enc a) w0 = some st2 ∧ wipeS st2 vs = w0 ∧ test st2 g = some (f a, st2, g) ∧ (f a = true → mTake elt st2 g = some (h a, st2, g))) :
    mLc src p vs test elt st g = some (.ow (.lst ((l.filter f).map h)), w0, g) := by
  have key : ∀ (l : List α) (acc : List D) (st0 : Sl), wipeS st0 vs = w0 → (∀ a ∈ l, ∃ st2, asg p (enc a) w0 = some st2 ∧ wipeS st2 vs = w0 ∧ test st2 g = some (f a, st2, g) ∧ (f a = true → mTake elt st2 g = some (h a, st2, g))) →
      ∃ st', compM p vs test elt (l.map enc) acc st0 g = some (acc ++ (l.filter f).map h, st', g) ∧ wipeS st' vs = w0 := by
    intro l
    induction l with
    | nil => intro acc st0 hw0 _; exact ⟨st0, by simp [compM], hw0⟩
    | cons a l ih =>
      intro acc st0 hw0 hs
      obtain ⟨st2, e1, e2, e3, e4⟩ := hs a List.mem_cons_self
      rw [List.map_cons]
      unfold compM
      rw [hw0, e1, Option.bind_some, e3, bnd_some]
      cases hb : f a with
      | true =>
        rw [if_pos rfl, e4 hb, bnd_some]
        obtain ⟨st', e5, e6⟩ := ih (acc ++ [h a]) st2 e2 fun a ha => hs a (List.mem_cons_of_mem _ ha)
        exact ⟨st', by rw [e5, List.filter_cons_of_pos hb]; simp, e6⟩
      | false =>
        rw [if_neg (by simp)]
        obtain ⟨st', e5, e6⟩ := ih acc st2 e2 fun a ha => hs a (List.mem_cons_of_mem _ ha)
        exact ⟨st', by rw [e5, List.filter_cons_of_neg (by simp [hb])], e6⟩
  obtain ⟨st', e, ew⟩ := key l [] st1 hw hs
  rw [r_lc, hsrc, thn_some]
  simp only [kLc_eq]
  rw [e, thn_some, kLc2_eq, ew, List.nil_append]
/-- all of them -/
theorem lc_all1 {α : Type} {src : M Dk (List D × List S)} {p : Pt} {vs : List Nat} {elt : M Dk S} {st st1 w0 : Sl} {g : Dk} {cells : List S} (l : List α) (enc : α → D) (h : α → D)
    (hsrc : src st g = some ((l.map enc, cells), st1, g)) (hw : wipeS st1 vs = w0)
    (hs : ∀ a ∈ l, ∃ st2, asg p (enc a) w0 = some st2 ∧ wipeS st2 vs = w0 ∧ mTake elt st2 g = some (h a, st2, g)) :
    mLc src p vs mYes elt st g = some (.ow (.lst (l.map h)), w0, g) := by
  have := lc_pure1 (test := mYes) l enc (fun _ => true) h hsrc hw fun a ha => by
    obtain ⟨st2, e1, e2, e3⟩ := hs a ha
    exact ⟨st2, e1, e2, rfl, fun _ => e3⟩
  rw [this, List.filter_eq_self.mpr fun _ _ => rfl]
/-- a comprehension that draws -/
theorem lc_wp1 {src : M Dk (List D × List S)} {p : Pt} {vs : List Nat} {test : M Dk Bool} {elt : M Dk S} {st st1 w0 : Sl} {g g1 : Dk} {items : List D} {cells : List S} {Q : S → Sl → Dk → Prop} (J : Nat → List D → Dk → Prop)
    (hsrc : src st g = some ((items, cells), st1, g1)) (hw : wipeS st1 vs = w0) (h0 : J 0 [] g1)
    (hs : ∀ k d acc g, items[k]? = some d → J k acc g → ∃ st2, asg p d w0 = some st2 ∧ wp (test st2 g) fun b st3 g3 => wipeS st3 vs = w0 ∧ if b = true then wp (mTake elt st3 g3) (fun y st4 g4 => wipeS st4 vs = w0 ∧ J (k + 1) (acc ++ [y]) g4) else J (k + 1) acc g3)
    (hd : ∀ acc g, J items.length acc g → Q (.ow (.lst acc)) w0 g) : wp (mLc src p vs test elt st g) Q := by
  obtain ⟨acc, st', g', e, hj, hw'⟩ := compM_rule (p := p) (vs := vs) (test := test) (elt := elt) (fun i acc st g => J i acc g ∧ wipeS st vs = w0) items 0 [] st1 g1 ⟨h0, hw⟩ fun k d acc st g e ⟨hj, hws⟩ => by
    rw [hws]
    rw [Nat.zero_add] at hj ⊢
    obtain ⟨st2, e1, b, st3, g3, e2, e3, h4⟩ := hs k d acc g e hj
    refine ⟨st2, e1, b, st3, g3, e2, fun hb => ?_, fun hb => ?_⟩
    · rw [if_pos hb] at h4
      obtain ⟨y, st4, g4, e5, e6, e7⟩ := h4
      exact ⟨y, st4, g4, e5, e7, e6⟩
    · rw [if_neg (by simp [hb])] at h4
      exact ⟨h4, e3⟩
  rw [r_lc, hsrc, thn_some]
  simp only [kLc_eq]
  rw [e, thn_some, kLc2_eq, hw']
  exact wp_some (hd _ _ (by rw [Nat.zero_add] at hj; exact hj))
theorem lc_all {α : Type} {src : M Dk (List D × List S)} {p : Pt} {vs : List Nat} {elt : M Dk S} {st w0 : Sl} {g : Dk} {cells : List S} (l : List α) (enc : α → D) (h : α → D)
    (hsrc : src st g = some ((l.map enc, cells), st, g)) (hw : wipeS st vs = w0)
    (hs : ∀ a ∈ l, ∃ st2, asg p (enc a) w0 = some st2 ∧ wipeS st2 vs = w0 ∧ mTake elt st2 g = some (h a, st2, g)) :
    mLc src p vs mYes elt st g = some (.ow (.lst (l.map h)), w0, g) :=
  lc_all1 l enc h hsrc hw hs
theorem lc_wp {src : M Dk (List D × List S)} {p : Pt} {vs : List Nat} {test : M Dk Bool} {elt : M Dk S} {st w0 : Sl} {g g1 : Dk} {items : List D} {cells : List S} {Q : S → Sl → Dk → Prop} (J : Nat → List D → Dk → Prop)
    (hsrc : src st g = some ((items, cells), st, g1)) (hw : wipeS st vs = w0) (h0 : J 0 [] g1)
    (hs : ∀ k d acc g, items[k]? = some d → J k acc g → ∃ st2, asg p d w0 = some st2 ∧ wp (test st2 g) fun b st3 g3 => wipeS st3 vs = w0 ∧ if b = true then wp (mTake elt st3 g3) (fun y st4 g4 => wipeS st4 vs = w0 ∧ J (k + 1) (acc ++ [y]) g4) else J (k + 1) acc g3)
    (hd : ∀ acc g, J items.length acc g → Q (.ow (.lst acc)) w0 g) : wp (mLc src p vs test elt st g) Q :=
  lc_wp1 J hsrc hw h0 hs hd
/-- a loop -/
theorem for_wp {p : Pt} {body : M Dk Fl} {items : List D} {st : Sl} {g : Dk} {Q : Fl → Sl → Dk → Prop} (J : Nat → Sl → Dk → Prop) (h0 : J 0 st g)
    (hs : ∀ k d st g, items[k]? = some d → J k st g → ∃ st1, asg p d st = some st1 ∧ wp (body st1 g) fun fl st2 g2 => fl = .nx ∧ J (k + 1) st2 g2)
    (hd : ∀ st g, J items.length st g → Q .nx st g) : wp (forM p body items st g) Q := by
  obtain ⟨st', g', e, hj⟩ := forM_rule (p := p) (body := body) J items 0 st g h0 fun k d st g e hj => by
    rw [Nat.zero_add] at hj ⊢
    obtain ⟨st1, e1, fl, st2, g2, e2, rfl, e4⟩ := hs k d st g e hj
    exact ⟨st1, e1, st2, g2, e2, e4⟩
  rw [e]
  exact wp_some (hd _ _ (by rw [Nat.zero_add] at hj; exact hj))
/-! ### data that may be looked at, and shown -/
def strOk (x : Str) : Bool := x.cps.toList.all fun c => decide (c < 16 ^ 8)
mutual
def okD : D → Bool
  | .non => true
  | .bl _ => true
  | .int i => decide (i.natAbs.log2 < 1920)
  | .str x => strOk x
  | .tup l => okDs l
  | .lst l => okDs l
  | .dct _ => false
  | .dcn _ => false
  | .obj _ => false
def okDs : List D → Bool
  | [] => true
  | d :: l => okD d && okDs l
end
mutual
/-- at least as long as it is shown -/
def wt : D → Nat
  | .non => 4
  | .bl _ => 5
  | .int _ => 2000
  | .str x => 10 * x.length + 2
  | .tup l => wts l + 3
  | .lst l => wts l + 3
  | .dct _ => 0
  | .dcn _ => 0
  | .obj _ => 0
def wts : List D → Nat
  | [] => 0
  | d :: l => wt d + 2 + wts l
end
theorem okDs_iff : ∀ {l : List D}, okDs l = true ↔ ∀ d ∈ l, okD d = true
  | [] => by simp [okDs]
  | d :: l => by simp [okDs, okDs_iff (l := l)]
theorem wts_len : ∀ l : List D, 2 * l.length ≤ wts l
  | [] => by simp [wts]
  | d :: l => by have := wts_len l; simp only [wts, List.length_cons]; omega
mutual
theorem okD_pl : ∀ d : D, okD d = true → d.pl = true
  | .non, _ => rfl
  | .bl _, _ => rfl
  | .int _, _ => rfl
  | .str _, _ => rfl
  | .tup l, h => by simp only [okD] at h; simp only [D.pl]; exact okDs_pls l h
  | .lst l, h => by simp only [okD] at h; simp only [D.pl]; exact okDs_pls l h
  | .dct _, h => by simp [okD] at h
  | .dcn _, h => by simp [okD] at h
  | .obj _, h => by simp [okD] at h
theorem okDs_pls : ∀ l : List D, okDs l = true → D.pls l = true
  | [], _ => rfl
  | d :: l, h => by
    simp only [okDs, Bool.and_eq_true] at h
    simp only [D.pls, okD_pl d h.1, okDs_pls l h.2, Bool.and_self]
end
mutual
theorem okD_show : ∀ d : D, okD d = true → d.py.showable = true
  | .non, _ => rfl
  | .bl _, _ => rfl
  | .int _, h => by simpa [okD, D.py, PyData.showable] using h
  | .str _, _ => rfl
  | .tup l, h => by simp only [okD] at h; simp only [D.py, PyData.showable]; exact okDs_shows l h
  | .lst l, h => by simp only [okD] at h; simp only [D.py, PyData.showable]; exact okDs_shows l h
  | .dct _, h => by simp [okD] at h
  | .dcn _, h => by simp [okD] at h
  | .obj _, h => by simp [okD] at h
theorem okDs_shows : ∀ l : List D, okDs l = true → PyData.showableAll (D.pys l) = true
  | [], _ => rfl
  | d :: l, h => by
    simp only [okDs, Bool.and_eq_true] at h
    simp only [D.pys, PyData.showableAll, okD_show d h.1, okDs_shows l h.2, Bool.and_self]
end
theorem listText_le (ts : List Str) : (listText ts).length ≤ piled ts + 2 := by
  unfold listText
  rw [strLen_append]
  have e1 : ((("]" : String) : Str)).length = 1 := rfl
  have e2 : ((("[" : String) : Str)).length = 1 := rfl
  cases ts with
  | nil => show (("[" : String) : Str).length + _ ≤ _; omega
  | cons t r =>
    show (textFrom 1 _ r).length + _ ≤ _
    rw [textFrom_length_pos r 1 _ (by decide), strLen_append, strLen_append, piled_cons]
    have e3 : ((if 0 > 0 then ", " else "" : String) : Str).length = 0 := rfl
    rw [e3]
    omega
theorem tupleText_le (ts : List Str) : (tupleText ts).length ≤ piled ts + 3 := by
  unfold tupleText
  rw [strLen_append, strLen_append]
  have e1 : ((("(" : String) : Str)).length = 1 := rfl
  have e2 : ((if ts.length == 1 then ",)" else ")" : String) : Str).length ≤ 2 := by split <;> decide
  by_cases h : ts = []
  · subst h
    have e3 : (Str.join ", " []).length = 0 := rfl
    omega
  · have := join_length_add ts h
    omega
theorem piled_le : ∀ l : List D, (∀ d ∈ l, d.py.shown.length ≤ wt d) → piled (PyData.shownAll (D.pys l)) ≤ wts l
  | [], _ => by simp [D.pys, PyData.shownAll, piled, wts]
  | d :: l, h => by
    simp only [D.pys, PyData.shownAll, piled_cons, wts]
    have := h d List.mem_cons_self
    have := piled_le l fun d hd => h d (List.mem_cons_of_mem _ hd)
    omega
mutual
theorem shown_le : ∀ d : D, okD d = true → d.py.shown.length ≤ wt d
  | .non, _ => by decide
  | .bl b, _ => by cases b <;> decide
  | .int i, h => by
    simp only [okD, decide_eq_true_eq] at h
    have := int_text_length_le (k := 1920) (by decide) h
    simp only [D.py, PyData.shown, wt]
    show (Str.ofString (toString i)).length ≤ 2000
    rw [PySem.ofString_length]; omega
  | .str x, h => by
    simp only [okD, strOk, List.all_eq_true, decide_eq_true_eq] at h
    simp only [D.py, PyData.shown, wt]
    exact StrLaws.reprText_len x h
  | .tup l, h => by
    simp only [okD] at h
    simp only [D.py, PyData.shown, wt]
    have := tupleText_le (PyData.shownAll (D.pys l))
    have := piled_le l (shown_les l h)
    omega
  | .lst l, h => by
    simp only [okD] at h
    simp only [D.py, PyData.shown, wt]
    have := listText_le (PyData.shownAll (D.pys l))
    have := piled_le l (shown_les l h)
    omega
  | .dct _, h => by simp [okD] at h
  | .dcn _, h => by simp [okD] at h
  | .obj _, h => by simp [okD] at h
theorem shown_les : ∀ l : List D, okDs l = true → ∀ d ∈ l, d.py.shown.length ≤ wt d
  | [], _, d, hd => by cases hd
  | e :: l, h, d, hd => by
    simp only [okDs, Bool.and_eq_true] at h
    have h1 := shown_le e h.1
    have h2 := shown_les l h.2
    rcases List.mem_cons.mp hd with q | q
    · rw [q]; exact h1
    · exact h2 d q
end
/-- fine data: looked at, shown; its weight, its depth -/
structure Fi (n k : Nat) (d : D) : Prop where
  ok : okD d = true
  w : wt d ≤ n
  dp : d.py.depth ≤ k
theorem Fi.mono {n k n' k' : Nat} {d : D} (h : Fi n k d) (h1 : n ≤ n') (h2 : k ≤ k') : Fi n' k' d := ⟨h.ok, Nat.le_trans h.w h1, Nat.le_trans h.dp h2⟩
theorem Fi.repr {n k : Nat} {d : D} (h : Fi n k d) (hn : n ≤ 10000000) (hk : k ≤ 100) : opRepr d = some (.sh (.str d.py.shown)) := by
  have h1 := shown_le d h.ok
  have h2 := h.w
  have h3 := h.dp
  have : okRepr d = true := by
    simp only [okRepr, Bool.and_eq_true, decide_eq_true_eq]
    exact ⟨⟨⟨okD_pl d h.ok, okD_show d h.ok⟩, by omega⟩, by rw [sizeLine_eq]; omega⟩
  simp only [opRepr, this, if_true]
theorem depthAll_le {l : List D} {k : Nat} (h : ∀ d ∈ l, d.py.depth ≤ k) : PyData.depthAll (D.pys l) ≤ k := by
  induction l with
  | nil => simp [D.pys, PyData.depthAll]
  | cons d l ih =>
    simp only [D.pys, PyData.depthAll]
    have := h d List.mem_cons_self
    have := ih fun d hd => h d (List.mem_cons_of_mem _ hd)
    omega
theorem Fi.tup {n k : Nat} {l : List D} (h : ∀ d ∈ l, okD d = true ∧ d.py.depth ≤ k) (hw : wts l + 3 ≤ n) : Fi n (k + 1) (.tup l) :=
  ⟨by simp only [okD]; exact okDs_iff.mpr fun d hd => (h d hd).1, by simpa only [wt] using hw, by simp only [D.py, PyData.depth]; have := depthAll_le fun d hd => (h d hd).2; omega⟩
theorem Fi.lst {n k : Nat} {l : List D} (h : ∀ d ∈ l, okD d = true ∧ d.py.depth ≤ k) (hw : wts l + 3 ≤ n) : Fi n (k + 1) (.lst l) :=
  ⟨by simp only [okD]; exact okDs_iff.mpr fun d hd => (h d hd).1, by simpa only [wt] using hw, by simp only [D.py, PyData.depth]; have := depthAll_le fun d hd => (h d hd).2; omega⟩
theorem Fi.len {n k : Nat} {l : List D} (h : Fi n k (.tup l)) : 2 * l.length ≤ n := by
  have h2 := h.w
  simp only [wt] at h2
  have := wts_len l
  omega
theorem Fi.str {n k : Nat} {d : D} (h : Fi n k d) : ∀ x, d = .str x → 10 * x.length ≤ n := fun x e => by
  subst e
  have h2 := h.w
  simp only [wt] at h2
  omega
end DL
namespace DL
open PySem PySem.Spec PyProof.Rows L2
/-! ### typed runs -/
abbrev TM (α : Type) := Dk → Option (α × Dk)
section
variable {α β γ δ : Type}
def pureT (a : α) : TM α := fun g => some (a, g)
def bindT (m : TM α) (k : α → TM β) : TM β := fun g => (m g).bind fun p => k p.1 p.2
def optT (o : Option α) : TM α := fun g => o.map fun a => (a, g)
def failT : TM α := fun _ => none
@[simp] theorem bindT_pure (a : α) (k : α → TM β) : bindT (pureT a) k = k a := rfl
@[simp] theorem opt_some (a : α) : optT (some a) = pureT a := rfl
@[simp] theorem opt_none : (optT none : TM α) = failT := rfl
@[simp] theorem bind_fail (k : α → TM β) : bindT (failT : TM α) k = failT := rfl
@[simp] theorem bindT_ret (m : TM α) : bindT m pureT = m := by
  funext g
  unfold bindT pureT
  cases m g <;> rfl
@[simp] theorem bindT_bind (m : TM α) (k : α → TM β) (l : β → TM γ) : bindT (bindT m k) l = bindT m fun a => bindT (k a) l := by
  funext g
  unfold bindT
  cases m g <;> rfl
@[simp] theorem pure_run (a : α) (g : Dk) : pureT a g = some (a, g) := rfl
theorem bind_eq {m : TM α} {k : α → TM β} {g : Dk} {r : β × Dk} (h : bindT m k g = some r) : ∃ a g1, m g = some (a, g1) ∧ k a g1 = some r := by
  unfold bindT at h
  cases e : m g with
  | none => rw [e] at h; cases h
  | some p => rw [e] at h; exact ⟨p.1, p.2, rfl, h⟩
theorem pure_eq {a : α} {g : Dk} {b : α} {g' : Dk} (h : pureT a g = some (b, g')) : a = b ∧ g = g' := by
  cases h; exact ⟨rfl, rfl⟩
theorem opt_eq {o : Option α} {g : Dk} {b : α} {g' : Dk} (h : optT o g = some (b, g')) : o = some b ∧ g = g' := by
  unfold optT at h
  cases o with
  | none => cases h
  | some a => cases h; exact ⟨rfl, rfl⟩
/-- it ends, and so -/
def wpT (m : TM α) (g : Dk) (Q : α → Dk → Prop) : Prop := ∃ a g', m g = some (a, g') ∧ Q a g'
theorem wpT_pure {a : α} {g : Dk} {Q : α → Dk → Prop} (h : Q a g) : wpT (pureT a) g Q := ⟨a, g, rfl, h⟩
theorem wpT_bind {m : TM α} {k : α → TM β} {g : Dk} {Q : β → Dk → Prop} (h : wpT m g fun a g => wpT (k a) g Q) : wpT (bindT m k) g Q := by
  obtain ⟨a, g1, e1, b, g2, e2, q⟩ := h
  exact ⟨b, g2, by unfold bindT; rw [e1]; exact e2, q⟩
theorem wpT_mono {m : TM α} {g : Dk} {Q Q' : α → Dk → Prop} (h : wpT m g Q) (hq : ∀ a g, Q a g → Q' a g) : wpT m g Q' := let ⟨a, g', e, q⟩ := h; ⟨a, g', e, hq _ _ q⟩
/-- encodings that tell their datum -/
class Inj (e : α → D) : Prop where
  inj : ∀ a b, e a = e b → a = b
open Classical in
@[irreducible] noncomputable def unE (e : α → D) (d : D) : Option α := if h : ∃ a, e a = d then some h.choose else none
theorem unE_ok {e : α → D} {d : D} {a : α} (h : unE e d = some a) : e a = d := by
  unfold unE at h
  split at h
  · rename_i hx; cases h; exact hx.choose_spec
  · cases h
@[simp] theorem unE_eq {e : α → D} [Inj e] {a : α} : unE e (e a) = some a := by
  unfold unE
  have hx : ∃ b, e b = e a := ⟨a, rfl⟩
  rw [dif_pos hx]
  exact congrArg some (Inj.inj _ _ hx.choose_spec)
@[irreducible] noncomputable def callT (F : Fn Dk) (e : α → D) (ds : List D) : TM α := fun g => (F ds g).bind fun p => (unE e p.1).map fun a => (a, p.2)
theorem callT_ok {F : Fn Dk} {e : α → D} {ds : List D} {g g' : Dk} {a : α} (h : callT F e ds g = some (a, g')) : F ds g = some (e a, g') := by
  unfold callT at h
  cases hf : F ds g with
  | none => rw [hf] at h; cases h
  | some p =>
    rw [hf] at h
    simp only [Option.bind_some] at h
    cases hu : unE e p.1 with
    | none => rw [hu] at h; cases h
    | some b => rw [hu] at h; cases h; rw [unE_ok hu]
theorem callT_run {F : Fn Dk} {e : α → D} [Inj e] {ds : List D} {g g' : Dk} {a : α} (h : F ds g = some (e a, g')) : callT F e ds g = some (a, g') := by
  unfold callT
  rw [h]
  simp
theorem callT_pure {F : Fn Dk} {e : α → D} [Inj e] {ds : List D} {a : α} (h : ∀ g, F ds g = some (e a, g)) : callT F e ds = pureT a := funext fun g => callT_run (h g)
theorem callT_wp {F : Fn Dk} {e : α → D} [Inj e] {ds : List D} {g : Dk} {Q : α → Dk → Prop} (h : ∃ a g', F ds g = some (e a, g') ∧ Q a g') : wpT (callT F e ds) g Q := let ⟨a, g', e, q⟩ := h; ⟨a, g', callT_run e, q⟩
/-! ### encodings -/
def eT (e : α → D) (l : List α) : D := .tup (l.map e)
def eL (e : α → D) (l : List α) : D := .lst (l.map e)
def eP (e : α → D) (f : β → D) (p : α × β) : D := .tup [e p.1, f p.2]
def eP3 (e : α → D) (f : β → D) (h : γ → D) (p : α × β × γ) : D := .tup [e p.1, f p.2.1, h p.2.2]
def eP4 (e : α → D) (f : β → D) (h : γ → D) (j : δ → D) (p : α × β × γ × δ) : D := .tup [e p.1, f p.2.1, h p.2.2.1, j p.2.2.2]
def eO (e : α → D) : Option α → D
  | none => .non
  | some a => e a
def eA (d : D) : D := d
def eN (_ : Unit) : D := .non
theorem map_inj' {e : α → D} [Inj e] : ∀ {l m : List α}, l.map e = m.map e → l = m
  | [], [], _ => rfl
  | [], _ :: _, h => by simp at h
  | _ :: _, [], h => by simp at h
  | a :: l, b :: m, h => by
    simp only [List.map_cons, List.cons.injEq] at h
    rw [Inj.inj _ _ h.1, map_inj' h.2]
instance : Inj D.int := ⟨fun _ _ h => by cases h; rfl⟩
instance : Inj D.str := ⟨fun _ _ h => by cases h; rfl⟩
instance : Inj D.bl := ⟨fun _ _ h => by cases h; rfl⟩
instance : Inj eA := ⟨fun _ _ h => h⟩
instance : Inj eN := ⟨fun _ _ _ => rfl⟩
instance {e : α → D} [Inj e] : Inj (eT e) := ⟨fun a b h => by unfold eT at h; exact map_inj' (D.tup.inj h)⟩
instance {e : α → D} [Inj e] : Inj (eL e) := ⟨fun a b h => by unfold eL at h; exact map_inj' (D.lst.inj h)⟩
instance {e : α → D} {f : β → D} [Inj e] [Inj f] : Inj (eP e f) := ⟨fun a b h => by
  unfold eP at h
  simp only [D.tup.injEq, List.cons.injEq, and_true] at h
  exact Prod.ext (Inj.inj _ _ h.1) (Inj.inj _ _ h.2)⟩
instance {e : α → D} {f : β → D} {j : γ → D} [Inj e] [Inj f] [Inj j] : Inj (eP3 e f j) := ⟨fun a b h => by
  unfold eP3 at h
  simp only [D.tup.injEq, List.cons.injEq, and_true] at h
  exact Prod.ext (Inj.inj _ _ h.1) (Prod.ext (Inj.inj _ _ h.2.1) (Inj.inj _ _ h.2.2))⟩
instance {e : α → D} {f : β → D} {j : γ → D} {k : δ → D} [Inj e] [Inj f] [Inj j] [Inj k] : Inj (eP4 e f j k) := ⟨fun a b h => by
  unfold eP4 at h
  simp only [D.tup.injEq, List.cons.injEq, and_true] at h
  exact Prod.ext (Inj.inj _ _ h.1) (Prod.ext (Inj.inj _ _ h.2.1) (Prod.ext (Inj.inj _ _ h.2.2.1) (Inj.inj _ _ h.2.2.2)))⟩
/-- encodings that never are None -/
class NotN (e : α → D) : Prop where
  nn : ∀ a, opIs true (e a) .non = some (.sh (.bl true))
instance : NotN D.int := ⟨fun _ => rfl⟩
instance : NotN D.str := ⟨fun _ => rfl⟩
instance : NotN D.bl := ⟨fun _ => rfl⟩
instance {e : α → D} : NotN (eT e) := ⟨fun _ => rfl⟩
instance {e : α → D} : NotN (eL e) := ⟨fun _ => rfl⟩
instance {e : α → D} {f : β → D} : NotN (eP e f) := ⟨fun _ => rfl⟩
instance {e : α → D} {f : β → D} {j : γ → D} : NotN (eP3 e f j) := ⟨fun _ => rfl⟩
instance {e : α → D} {f : β → D} {j : γ → D} {k : δ → D} : NotN (eP4 e f j k) := ⟨fun _ => rfl⟩
theorem NotN.ne {e : α → D} [NotN e] {a : α} (h : e a = .non) : False := by
  have := NotN.nn (e := e) a
  rw [h] at this
  simp [opIs, isNon] at this
instance {e : α → D} [Inj e] [NotN e] : Inj (eO e) := ⟨fun a b h => by
  cases a with
  | none => cases b with
    | none => rfl
    | some b => exact (NotN.ne (e := e) h.symm).elim
  | some a => cases b with
    | none => exact (NotN.ne (e := e) h).elim
    | some b => rw [Inj.inj (e := e) _ _ h]⟩
/-! ### what slots hold -/
def Sat (Γ st : Sl) : Prop := st.length = Γ.length ∧ ∀ (i : Nat) s, Γ[i]? = some (some s) → st[i]? = some (some s)
variable {Γ Γ1 Γ2 Γ3 st st1 st2 : Sl} {i j k : Nat} {s t : S} {d : D} {g g' : Dk}
theorem Sat.refl : Sat Γ Γ := ⟨rfl, fun _ _ h => h⟩
theorem Sat.get (h : Sat Γ st) (e : Γ[i]? = some (some s)) : st[i]? = some (some s) := h.2 i s e
theorem Sat.set (h : Sat Γ st) (x : Option S) : Sat (Γ.set i x) (st.set i x) := by
  refine ⟨by rw [List.length_set, List.length_set]; exact h.1, fun j s e => ?_⟩
  by_cases hj : i = j
  · subst hj
    have hl : i < Γ.length := by have := (List.getElem?_eq_some_iff.mp e).1; rwa [List.length_set] at this
    rw [List.getElem?_set_self hl] at e
    rw [List.getElem?_set_self (by rw [h.1]; exact hl)]
    exact e
  · rw [List.getElem?_set_ne hj] at e ⊢
    exact h.2 j s e
theorem Sat.wipe : ∀ {vs : List Nat} {Γ st : Sl}, Sat Γ st → Sat (wipeS Γ vs) (wipeS st vs)
  | [], _, _, h => h
  | i :: vs, Γ, st, h => by rw [wipeS_cons, wipeS_cons]; exact (Sat.wipe h).set none
theorem Sat.trans (h : Sat Γ Γ1) (h1 : Sat Γ1 st) : Sat Γ st := ⟨by rw [h1.1, h.1], fun i s e => h1.2 i s (h.2 i s e)⟩
/-- weaker -/
inductive Wk : Sl → Sl → Prop
  | nil : Wk [] []
  | n {a b : Sl} {x : Option S} : Wk a b → Wk (none :: a) (x :: b)
  | s {a b : Sl} {x : Option S} : Wk a b → Wk (x :: a) (x :: b)
theorem Wk.sat {a b : Sl} (h : Wk a b) : Sat a b := by
  induction h with
  | nil => exact Sat.refl
  | n _ ih =>
    refine ⟨by simp [ih.1], fun i s e => ?_⟩
    cases i with
    | zero => cases e
    | succ i => exact ih.2 i s e
  | s _ ih =>
    refine ⟨by simp [ih.1], fun i s e => ?_⟩
    cases i with
    | zero => exact e
    | succ i => exact ih.2 i s e
mutual
theorem Sat.asg : ∀ (p : Pt) (d : D) {Γ Γ1 st : Sl}, Sat Γ st → asg p d Γ = some Γ1 → ∃ st1, DL.asg p d st = some st1 ∧ Sat Γ1 st1
  | .nm i, d, Γ, Γ1, st, h, e => by
    simp only [DL.asg] at e ⊢
    split at e
    · rename_i hi
      cases e
      rw [if_pos (by rw [h.1]; exact hi)]
      exact ⟨_, rfl, h.set _⟩
    · cases e
  | .tp ps, d, Γ, Γ1, st, h, e => by
    simp only [DL.asg] at e ⊢
    split at e
    · exact Sat.asgs ps _ h e
    · cases e
theorem Sat.asgs : ∀ (ps : List Pt) (ds : List D) {Γ Γ1 st : Sl}, Sat Γ st → asgs ps ds Γ = some Γ1 → ∃ st1, DL.asgs ps ds st = some st1 ∧ Sat Γ1 st1
  | [], [], Γ, Γ1, st, h, e => by simp only [DL.asgs] at e ⊢; cases e; exact ⟨_, rfl, h⟩
  | p :: ps, d :: ds, Γ, Γ1, st, h, e => by
    simp only [DL.asgs] at e ⊢
    obtain ⟨Γm, e1, e2⟩ := Option.bind_eq_some_iff.mp e
    obtain ⟨s1, f1, h1⟩ := Sat.asg p d h e1
    rw [f1, Option.bind_some]
    exact Sat.asgs ps ds h1 e2
  | [], _ :: _, _, _, _, _, e => by simp [DL.asgs] at e
  | _ :: _, [], _, _, _, _, e => by simp [DL.asgs] at e
end
/-! ### judgements -/
def sOf (ow : Bool) (d : D) : S := match ow with
  | true => .ow d
  | false => .sh d
/-- e gives a value of its own -/
def EN (Γ : Sl) (e : M Dk S) (m : TM α) (ow : Bool) (φ : α → D) (Γ' : Sl) : Prop := ∀ st g a g', Sat Γ st → m g = some (a, g') → ∃ st', e st g = some (sOf ow (φ a), st', g') ∧ Sat Γ' st'
/-- e's value may be looked at -/
def EP (Γ : Sl) (e : M Dk S) (m : TM α) (φ : α → D) (Γ' : Sl) : Prop := ∀ st g a g', Sat Γ st → m g = some (a, g') → ∃ s st', e st g = some (s, st', g') ∧ Sat Γ' st' ∧ ∀ st2, Sat Γ' st2 → peek s st2 = some (φ a)
/-- e's value may be kept -/
def ET (Γ : Sl) (e : M Dk S) (m : TM α) (φ : α → D) (Γ' : Sl) : Prop := ∀ st g a g', Sat Γ st → m g = some (a, g') → ∃ st', mTake e st g = some (φ a, st', g') ∧ Sat Γ' st'
def EB (Γ : Sl) (t : M Dk Bool) (m : TM Bool) (Γ' : Sl) : Prop := ∀ st g a g', Sat Γ st → m g = some (a, g') → ∃ st', t st g = some (a, st', g') ∧ Sat Γ' st'
def EA (Γ : Sl) (u : M Dk (List D)) (m : TM α) (φ : α → List D) (Γ' : Sl) : Prop := ∀ st g a g', Sat Γ st → m g = some (a, g') → ∃ st', u st g = some (φ a, st', g') ∧ Sat Γ' st'
/-- what is gone through -/
def EI (Γ : Sl) (src : M Dk (List D × List S)) (m : TM (List α)) (φ : α → D) (Γ' : Sl) : Prop := ∀ st g a g', Sat Γ st → m g = some (a, g') → ∃ c st', src st g = some ((a.map φ, c), st', g') ∧ Sat Γ' st'
variable {ow : Bool} {e e1 e2 : M Dk S} {ma : TM α} {mb : TM β} {mc : TM γ} {ea : α → D} {eb : β → D} {ec : γ → D} {x : α} {y : β} {z : γ}
theorem EN.pk (h : EN Γ e ma ow ea Γ1) : EP Γ e ma ea Γ1 := fun st g a g' hs hm => by
  obtain ⟨st', e1, h1⟩ := h st g a g' hs hm
  exact ⟨_, st', e1, h1, fun st2 _ => by cases ow <;> rfl⟩
theorem EN.tk (h : EN Γ e ma ow ea Γ1) : ET Γ e ma ea Γ1 := fun st g a g' hs hm => by
  obtain ⟨st', e1, h1⟩ := h st g a g' hs hm
  refine ⟨st', ?_, h1⟩
  unfold mTake
  rw [e1, bnd_some]
  cases ow <;> rfl
theorem ep_own (ea : α → D) (x : α) (h : Γ[i]? = some (some (.ow (ea x)))) : EP Γ (mVar i) (pureT x) ea Γ := fun st g a g' hs hm => by
  obtain ⟨rfl, rfl⟩ := pure_eq hm
  refine ⟨.at i, st, ?_, hs, fun st2 h2 => ?_⟩
  · unfold mVar; rw [hs.get h]
  · unfold peek; simp only [h2.get h]
theorem et_own (ea : α → D) (x : α) (h : Γ[i]? = some (some (.ow (ea x)))) : ET Γ (mVar i) (pureT x) ea (Γ.set i (some (.sh (ea x)))) := fun st g a g' hs hm => by
  obtain ⟨rfl, rfl⟩ := pure_eq hm
  refine ⟨st.set i (some (.sh (ea x))), ?_, hs.set _⟩
  unfold mTake mVar
  rw [hs.get h]
  simp only [bnd_some, take, hs.get h, Option.map_some]
theorem en_c (ea : α → D) (x : α) (h : ea x = d) : EN Γ (mC d) (pureT x) false ea Γ := fun st g a g' hs hm => by
  obtain ⟨rfl, rfl⟩ := pure_eq hm
  exact ⟨st, by rw [h]; rfl, hs⟩
theorem en_var (ea : α → D) (x : α) (h : Γ[i]? = some (some (.sh (ea x)))) : EN Γ (mVar i) (pureT x) false ea Γ := fun st g a g' hs hm => by
  obtain ⟨rfl, rfl⟩ := pure_eq hm
  exact ⟨st, by unfold mVar; rw [hs.get h]; rfl, hs⟩
theorem en_shr (h : ET Γ e ma ea Γ1) : EN Γ (mShr e) ma false ea Γ1 := fun st g a g' hs hm => by
  obtain ⟨st', e1, h1⟩ := h st g a g' hs hm
  exact ⟨st', by unfold mShr; rw [e1]; rfl, h1⟩
theorem en_op {op : D → D → Option S} {f : α → β → Option γ} (ha : EP Γ e1 ma ea Γ1) (hb : EP Γ1 e2 mb eb Γ1) (ho : ∀ x y z, f x y = some z → op (ea x) (eb y) = some (sOf ow (ec z))) : EN Γ (mOp op e1 e2) (bindT ma fun x => bindT mb fun y => optT (f x y)) ow ec Γ1 := fun st g a g' hs hm => by
  obtain ⟨x, g1, m1, hm⟩ := bind_eq hm
  obtain ⟨y, g2, m2, hm⟩ := bind_eq hm
  obtain ⟨ho', rfl⟩ := opt_eq hm
  obtain ⟨s1, st1, h1, hs1, p1⟩ := ha st g x g1 hs m1
  obtain ⟨s2, st2, h2, hs2, p2⟩ := hb st1 g1 y g2 hs1 m2
  refine ⟨st2, ?_, hs2⟩
  unfold mOp
  rw [h1, bnd_some, h2, bnd_some, p1 _ hs2, Option.bind_some, p2 _ hs2, Option.bind_some, ho x y a ho']
  rfl
theorem en_opV {op : D → D → Option S} (ha : EP Γ e1 (pureT x) ea Γ1) (hb : EP Γ1 e2 (pureT y) eb Γ1) (ho : op (ea x) (eb y) = some (sOf ow (ec z))) : EN Γ (mOp op e1 e2) (pureT z) ow ec Γ1 := fun st g a g' hs hm => by
  obtain ⟨rfl, rfl⟩ := pure_eq hm
  obtain ⟨s1, st1, h1, hs1, p1⟩ := ha st g x g hs rfl
  obtain ⟨s2, st2, h2, hs2, p2⟩ := hb st1 g y g hs1 rfl
  refine ⟨st2, ?_, hs2⟩
  unfold mOp
  rw [h1, bnd_some, h2, bnd_some, p1 _ hs2, Option.bind_some, p2 _ hs2, Option.bind_some, ho]
  rfl
theorem en_un {un : D → Option S} {f : α → Option γ} (ha : EP Γ e1 ma ea Γ1) (ho : ∀ x z, f x = some z → un (ea x) = some (sOf ow (ec z))) : EN Γ (mUn un e1) (bindT ma fun x => optT (f x)) ow ec Γ1 := fun st g a g' hs hm => by
  obtain ⟨x, g1, m1, hm⟩ := bind_eq hm
  obtain ⟨ho', rfl⟩ := opt_eq hm
  obtain ⟨s1, st1, h1, hs1, p1⟩ := ha st g x g1 hs m1
  refine ⟨st1, ?_, hs1⟩
  unfold mUn
  rw [h1, bnd_some, p1 _ hs1, Option.bind_some, ho x a ho']
  rfl
theorem en_unV {un : D → Option S} (ha : EP Γ e1 (pureT x) ea Γ1) (ho : un (ea x) = some (sOf ow (ec z))) : EN Γ (mUn un e1) (pureT z) ow ec Γ1 := fun st g a g' hs hm => by
  obtain ⟨rfl, rfl⟩ := pure_eq hm
  obtain ⟨s1, st1, h1, hs1, p1⟩ := ha st g x g hs rfl
  refine ⟨st1, ?_, hs1⟩
  unfold mUn
  rw [h1, bnd_some, p1 _ hs1, Option.bind_some, ho]
  rfl
theorem EN.cast (ha : EN Γ e ma ow ea Γ1) : EN Γ e (bindT ma fun a => optT (unE ec (ea a))) ow ec Γ1 := fun st g a g' hs hm => by
  obtain ⟨x, g1, m1, hm⟩ := bind_eq hm
  obtain ⟨ho, rfl⟩ := opt_eq hm
  obtain ⟨st', h1, h2⟩ := ha st g x g1 hs m1
  exact ⟨st', by rw [h1, unE_ok ho], h2⟩
/-! tests -/
variable {t t1 t2 : M Dk Bool} {m m1 m2 : TM Bool} {b b1 b2 : Bool}
theorem eb_test {mt : TM Bool} (h : EN Γ e mt false D.bl Γ1) : EB Γ (mTest e) mt Γ1 := fun st g a g' hs hm => by
  obtain ⟨st', h1, h2⟩ := h st g a g' hs hm
  exact ⟨st', by unfold mTest; rw [h1]; rfl, h2⟩
theorem eb_yes : EB Γ mYes (pureT true) Γ := fun st g a g' hs hm => by
  obtain ⟨rfl, rfl⟩ := pure_eq hm
  exact ⟨st, rfl, hs⟩
theorem eb_not (h : EB Γ t m Γ1) : EB Γ (mNot t) (bindT m fun b => pureT (!b)) Γ1 := fun st g a g' hs hm => by
  obtain ⟨b, g1, m1, hm⟩ := bind_eq hm
  obtain ⟨rfl, rfl⟩ := pure_eq hm
  obtain ⟨st', h1, h2⟩ := h st g b g1 hs m1
  exact ⟨st', by unfold mNot; rw [h1]; rfl, h2⟩
theorem eb_notV (h : EB Γ t (pureT b) Γ1) : EB Γ (mNot t) (pureT (!b)) Γ1 := eb_not h
theorem eb_or (h1 : EB Γ t1 m1 Γ) (h2 : EB Γ t2 m2 Γ) : EB Γ (mOr t1 t2) (bindT m1 fun b => if b = true then pureT true else m2) Γ := fun st g a g' hs hm => by
  obtain ⟨b, g1, e1, hm⟩ := bind_eq hm
  obtain ⟨st1, h1, hs1⟩ := h1 st g b g1 hs e1
  unfold mOr
  rw [h1, bnd_some]
  cases b with
  | false => exact h2 st1 g1 a g' hs1 hm
  | true => obtain ⟨rfl, rfl⟩ := pure_eq hm; exact ⟨st1, rfl, hs1⟩
theorem en_if {m1 m2 : TM α} (hc : EB Γ t m Γ) (h1 : EN Γ e1 m1 ow ea Γ1) (h2 : EN Γ e2 m2 ow ea Γ1) : EN Γ (mIf t e1 e2) (bindT m fun b => if b = true then m1 else m2) ow ea Γ1 := fun st g a g' hs hm => by
  obtain ⟨b, g1, e1, hm⟩ := bind_eq hm
  obtain ⟨st1, h3, hs1⟩ := hc st g b g1 hs e1
  unfold mIf
  rw [h3, bnd_some]
  cases b with
  | true => exact h1 st1 g1 a g' hs1 hm
  | false => exact h2 st1 g1 a g' hs1 hm
theorem et_if {m1 m2 : TM α} (hc : EB Γ t m Γ) (h1 : ET Γ e1 m1 ea Γ1) (h2 : ET Γ e2 m2 ea Γ1) : ET Γ (mIf t e1 e2) (bindT m fun b => if b = true then m1 else m2) ea Γ1 := fun st g a g' hs hm => by
  obtain ⟨b, g1, e3, hm⟩ := bind_eq hm
  obtain ⟨st1, h3, hs1⟩ := hc st g b g1 hs e3
  unfold mTake mIf
  rw [h3, bnd_some]
  cases b with
  | true => exact h1 st1 g1 a g' hs1 hm
  | false => exact h2 st1 g1 a g' hs1 hm
theorem en_orV {m1 m2 : TM Bool} (h1 : EN Γ e1 m1 false D.bl Γ) (h2 : EN Γ e2 m2 false D.bl Γ) : EN Γ (mOrV e1 e2) (bindT m1 fun b => if b = true then pureT true else m2) false D.bl Γ := en_if (eb_test h1) (en_c D.bl true rfl) h2
theorem en_orVV (h1 : EN Γ e1 (pureT b1) false D.bl Γ) (h2 : EN Γ e2 (pureT b2) false D.bl Γ) : EN Γ (mOrV e1 e2) (pureT (b1 || b2)) false D.bl Γ := fun st g a g' hs hm => by
  refine en_orV h1 h2 st g a g' hs ?_
  rw [bindT_pure]
  cases b1 <;> exact hm
/-! arguments -/
variable {u : M Dk (List D)}
theorem ea_nil : EA Γ mNil (pureT ()) (fun _ => []) Γ := fun st g a g' hs hm => by
  obtain ⟨rfl, rfl⟩ := pure_eq hm
  exact ⟨st, rfl, hs⟩
theorem ea_cons {fb : β → List D} (ha : ET Γ e ma ea Γ1) (hb : EA Γ1 u mb fb Γ2) : EA Γ (mCons e u) (bindT ma fun x => bindT mb fun y => pureT (x, y)) (fun p => ea p.1 :: fb p.2) Γ2 := fun st g a g' hs hm => by
  obtain ⟨x, g1, m1, hm⟩ := bind_eq hm
  obtain ⟨y, g2, m2, hm⟩ := bind_eq hm
  obtain ⟨rfl, rfl⟩ := pure_eq hm
  obtain ⟨st1, h1, hs1⟩ := ha st g x g1 hs m1
  obtain ⟨st2, h2, hs2⟩ := hb st1 g1 y g2 hs1 m2
  exact ⟨st2, by unfold mCons; rw [h1, bnd_some, h2]; rfl, hs2⟩
theorem ea_consV {fb : β → List D} (ha : ET Γ e (pureT x) ea Γ1) (hb : EA Γ1 u (pureT y) fb Γ2) : EA Γ (mCons e u) (pureT (x, y)) (fun p => ea p.1 :: fb p.2) Γ2 := ea_cons ha hb
theorem en_call {F : Fn Dk} {fa : α → List D} (h : EA Γ u ma fa Γ1) : EN Γ (mCall F u) (bindT ma fun x => callT F ec (fa x)) false ec Γ1 := fun st g a g' hs hm => by
  obtain ⟨x, g1, m1, hm⟩ := bind_eq hm
  obtain ⟨st1, h1, hs1⟩ := h st g x g1 hs m1
  exact ⟨st1, by unfold mCall; rw [h1, bnd_some, callT_ok hm]; rfl, hs1⟩
theorem en_callV {F : Fn Dk} {fa : α → List D} {ds : List D} (h : EA Γ u (pureT x) fa Γ1) (hd : fa x = ds) : EN Γ (mCall F u) (callT F ec ds) false ec Γ1 := by
  subst hd
  exact en_call h
theorem en_callK {F : Fn Dk} {pm : List Nat} {fa : α → List D} (h : EA Γ u ma fa Γ1) : EN Γ (mCallK pm F u) (bindT ma fun x => callT F ec (permD pm (fa x))) false ec Γ1 := fun st g a g' hs hm => by
  obtain ⟨x, g1, m1, hm⟩ := bind_eq hm
  obtain ⟨st1, h1, hs1⟩ := h st g x g1 hs m1
  exact ⟨st1, by unfold mCallK; rw [h1, bnd_some, callT_ok hm]; rfl, hs1⟩
theorem en_tupV {fa : α → List D} (h : EA Γ u (pureT x) fa Γ1) (hd : D.tup (fa x) = ec z) (hl : (fa x).length ≤ 1000) : EN Γ (mTup u) (pureT z) false ec Γ1 := fun st g a g' hs hm => by
  obtain ⟨rfl, rfl⟩ := pure_eq hm
  obtain ⟨st1, h1, hs1⟩ := h st g x g hs rfl
  refine ⟨st1, ?_, hs1⟩
  unfold mTup
  rw [h1, bnd_some, if_pos (le_sz (Nat.le_trans hl (by decide))), hd]
  rfl
theorem en_lst {fa : α → List D} {f : α → γ} (h : EA Γ u ma fa Γ1) (hd : ∀ x, D.lst (fa x) = ec (f x)) (hl : ∀ x, (fa x).length ≤ 1000) : EN Γ (mLst u) (bindT ma fun x => pureT (f x)) true ec Γ1 := fun st g a g' hs hm => by
  obtain ⟨x, g1, m1, hm⟩ := bind_eq hm
  obtain ⟨rfl, rfl⟩ := pure_eq hm
  obtain ⟨st1, h1, hs1⟩ := h st g x g1 hs m1
  refine ⟨st1, ?_, hs1⟩
  unfold mLst
  rw [h1, bnd_some, if_pos (le_sz (Nat.le_trans (hl x) (by decide))), hd]
  rfl
theorem en_lstV {fa : α → List D} (h : EA Γ u (pureT x) fa Γ1) (hd : D.lst (fa x) = ec z) (hl : (fa x).length ≤ 1000) : EN Γ (mLst u) (pureT z) true ec Γ1 := fun st g a g' hs hm => by
  obtain ⟨rfl, rfl⟩ := pure_eq hm
  obtain ⟨st1, h1, hs1⟩ := h st g x g hs rfl
  refine ⟨st1, ?_, hs1⟩
  unfold mLst
  rw [h1, bnd_some, if_pos (le_sz (Nat.le_trans hl (by decide))), hd]
  rfl
end
end DL
namespace DL
open PySem PySem.Spec PyProof.Rows L2
section
variable {α β γ δ ρ : Type}
variable {Γ Γ1 Γ2 Γ3 st st1 st2 : Sl} {i j k : Nat} {s t : S} {d : D} {g g' : Dk}
variable {ow : Bool} {e e1 e2 : M Dk S} {ma : TM α} {mb : TM β} {mc : TM γ} {ea : α → D} {eb : β → D} {ec : γ → D} {x : α} {y : β} {z : γ}
/-! ### what is gone through -/
theorem ei_seqT {ml : TM (List α)} (h : ET Γ e ml (eT ea) Γ1) : EI Γ (srcSeq e) ml ea Γ1 := fun st g a g' hs hm => by
  obtain ⟨st', h1, h2⟩ := h st g a g' hs hm
  exact ⟨_, st', by unfold srcSeq; rw [h1]; rfl, h2⟩
theorem ei_seqL {ml : TM (List α)} (h : ET Γ e ml (eL ea) Γ1) : EI Γ (srcSeq e) ml ea Γ1 := fun st g a g' hs hm => by
  obtain ⟨st', h1, h2⟩ := h st g a g' hs hm
  exact ⟨_, st', by unfold srcSeq; rw [h1]; rfl, h2⟩
@[irreducible] def rngI (lo : Int) (n : Nat) : List Int := (List.range n).map fun (i : Nat) => lo + (i : Int)
theorem rngI_D (lo : Int) (n : Nat) : rangeD lo n = (rngI lo n).map D.int := by
  unfold rangeD rngI
  rw [List.map_map]; rfl
@[irreducible] def rngT (j : Int) : Option (List Int) := if -(2 ^ 62) ≤ j ∧ j < 2 ^ 62 ∧ j.toNat ≤ sizeLine then some (rngI 0 j.toNat) else none
theorem ei_range1 {mi : TM Int} (h : ET Γ e mi D.int Γ1) : EI Γ (srcRange1 e) (bindT mi fun n => optT (rngT n)) D.int Γ1 := fun st g a g' hs hm => by
  obtain ⟨n, g1, m1, hm⟩ := bind_eq hm
  obtain ⟨ho, rfl⟩ := opt_eq hm
  obtain ⟨st', h1, h2⟩ := h st g n g1 hs m1
  unfold rngT at ho
  split at ho
  · rename_i hc
    cases ho
    exact ⟨_, st', by unfold srcRange1; rw [h1, bnd_some]; simp only [hc, and_self, if_true]; rw [rngI_D], h2⟩
  · cases ho
theorem zipD_map (l : List α) (m : List β) : zipD (l.map ea) (m.map eb) = (l.zip m).map (eP ea eb) := by
  unfold zipD
  rw [List.zipWith_map, ← List.map_uncurry_zip_eq_zipWith]
  rfl
theorem ei_zipT {ml : TM (List α)} {mr : TM (List β)} (h1 : ET Γ e1 ml (eT ea) Γ1) (h2 : ET Γ1 e2 mr (eT eb) Γ2) : EI Γ (srcZip (mCons e1 (mCons e2 mNil))) (bindT ml fun l => bindT mr fun r => pureT (l.zip r)) (eP ea eb) Γ2 := fun st g a g' hs hm => by
  obtain ⟨l, g1, m1, hm⟩ := bind_eq hm
  obtain ⟨r, g2, m2, hm⟩ := bind_eq hm
  obtain ⟨rfl, rfl⟩ := pure_eq hm
  obtain ⟨st1, h3, h4⟩ := h1 st g l g1 hs m1
  obtain ⟨st2, h5, h6⟩ := h2 st1 g1 r g2 h4 m2
  refine ⟨[.sh (eT ea l), .sh (eT eb r)], st2, ?_, h6⟩
  unfold srcZip mCons mNil
  rw [h3, bnd_some, h5, ← zipD_map]
  rfl
@[irreducible] def enumI (l : List α) : List (Int × α) := l.mapIdx fun i a => ((i : Int), a)
/-! ### names given -/
theorem as_nm (h : i < Γ.length) (hΓ : Γ.set i (some (.sh d)) = Γ1) : asg (.nm i) d Γ = some Γ1 := by
  simp only [asg]; rw [if_pos h, hΓ]
theorem as_tp {ps : List Pt} {ds : List D} (hd : d = .tup ds) (h : asgs ps ds Γ = some Γ1) : asg (.tp ps) d Γ = some Γ1 := by
  subst hd; simp only [asg]; exact h
theorem as_nil : asgs [] [] Γ = some Γ := by simp only [asgs]
theorem as_cons {p : Pt} {ps : List Pt} {ds : List D} (h : asg p d Γ = some Γ1) (h2 : asgs ps ds Γ1 = some Γ2) : asgs (p :: ps) (d :: ds) Γ = some Γ2 := by
  simp only [asgs]; rw [h]; exact h2
/-! ### comprehensions -/
def compT (mt : α → TM Bool) (me : α → TM β) : List α → TM (List β)
  | [] => pureT []
  | a :: l => bindT (mt a) fun b => if b = true then bindT (me a) fun y => bindT (compT mt me l) fun r => pureT (y :: r) else compT mt me l
def mapT (me : α → TM β) : List α → TM (List β)
  | [] => pureT []
  | a :: l => bindT (me a) fun y => bindT (mapT me l) fun r => pureT (y :: r)
theorem comp_run {p : Pt} {vs : List Nat} {test : M Dk Bool} {elt : M Dk S} {Γa : α → Sl} {mt : α → TM Bool} {me : α → TM β} {ei : α → D} {ee : β → D}
    (ha : ∀ a, asg p (ei a) Γ = some (Γa a)) (hb : ∀ a, wipeS (Γa a) vs = Γ) (ht : ∀ a, EB (Γa a) test (mt a) (Γa a)) (he : ∀ a, ET (Γa a) elt (me a) ee (Γa a)) :
    ∀ (l : List α) (acc : List D) (st : Sl) (g : Dk) (r : List β) (g' : Dk), Sat Γ (wipeS st vs) → compT mt me l g = some (r, g') → ∃ st', compM p vs test elt (l.map ei) acc st g = some (acc ++ r.map ee, st', g') ∧ Sat Γ (wipeS st' vs)
  | [], acc, st, g, r, g', hs, hm => by
    obtain ⟨rfl, rfl⟩ := pure_eq hm
    exact ⟨st, by simp [compM], hs⟩
  | a :: l, acc, st, g, r, g', hs, hm => by
    unfold compT at hm
    obtain ⟨b, g1, m1, hm⟩ := bind_eq hm
    obtain ⟨st1, e1, hs1⟩ := Sat.asg p (ei a) hs (ha a)
    obtain ⟨st2, e2, hs2⟩ := ht a st1 g b g1 hs1 m1
    rw [List.map_cons]
    unfold compM
    rw [e1, Option.bind_some, e2, bnd_some]
    cases b with
    | true =>
      rw [if_pos rfl] at hm ⊢
      obtain ⟨y, g2, m2, hm⟩ := bind_eq hm
      obtain ⟨r1, g3, m3, hm⟩ := bind_eq hm
      obtain ⟨rfl, rfl⟩ := pure_eq hm
      obtain ⟨st3, e3, hs3⟩ := he a st2 g1 y g2 hs2 m2
      rw [e3, bnd_some]
      obtain ⟨st', e4, h4⟩ := comp_run ha hb ht he l (acc ++ [ee y]) st3 g2 r1 g3 (by have := hs3.wipe (vs := vs); rwa [hb] at this) m3
      exact ⟨st', by rw [e4]; simp, h4⟩
    | false =>
      rw [if_neg (by simp)] at hm ⊢
      exact comp_run ha hb ht he l acc st2 g1 r g' (by have := hs2.wipe (vs := vs); rwa [hb] at this) hm
theorem compT_yes (me : α → TM β) : ∀ l, compT (fun _ => pureT true) me l = mapT me l
  | [] => rfl
  | a :: l => by unfold compT mapT; rw [bindT_pure, if_pos rfl, compT_yes me l]
variable {src : M Dk (List D × List S)} {p : Pt} {vs : List Nat} {test : M Dk Bool} {elt : M Dk S} {Γa : α → Sl} {mt : α → TM Bool} {me : α → TM β} {ml : TM (List α)}
theorem en_lc (hi : EI Γ src ml ea Γ1) (hw : wipeS Γ1 vs = Γ1) (ha : ∀ a, asg p (ea a) Γ1 = some (Γa a)) (hb : ∀ a, wipeS (Γa a) vs = Γ1) (ht : ∀ a, EB (Γa a) test (mt a) (Γa a)) (he : ∀ a, ET (Γa a) elt (me a) eb (Γa a)) : EN Γ (mLc src p vs test elt) (bindT ml fun l => compT mt me l) true (eL eb) Γ1 := fun st g a g' hs hm => by
  obtain ⟨l, g1, m1, hm⟩ := bind_eq hm
  obtain ⟨c, st1, h1, hs1⟩ := hi st g l g1 hs m1
  obtain ⟨st2, h2, hs2⟩ := comp_run ha hb ht he l [] st1 g1 a g' (by have := hs1.wipe (vs := vs); rwa [hw] at this) hm
  exact ⟨_, by unfold mLc; rw [h1, bnd_some, h2, List.nil_append]; rfl, hs2⟩
theorem en_map (hi : EI Γ src ml ea Γ1) (hw : wipeS Γ1 vs = Γ1) (ha : ∀ a, asg p (ea a) Γ1 = some (Γa a)) (hb : ∀ a, wipeS (Γa a) vs = Γ1) (he : ∀ a, ET (Γa a) elt (me a) eb (Γa a)) : EN Γ (mLc src p vs mYes elt) (bindT ml fun l => mapT me l) true (eL eb) Γ1 := by
  have h := en_lc (mt := fun _ => pureT true) hi hw ha hb (fun a => eb_yes) he
  have e : (fun l => compT (fun _ => pureT true) me l) = fun l => mapT me l := funext (compT_yes me)
  rwa [e] at h
theorem compT_pure {f : α → Bool} {h : α → β} : ∀ {l : List α}, (∀ a ∈ l, mt a = pureT (f a)) → (∀ a ∈ l, f a = true → me a = pureT (h a)) → compT mt me l = pureT ((l.filter f).map h)
  | [], _, _ => rfl
  | a :: l, h1, h2 => by
    have ih := compT_pure (l := l) (fun b hb => h1 b (List.mem_cons_of_mem _ hb)) (fun b hb => h2 b (List.mem_cons_of_mem _ hb))
    unfold compT
    rw [h1 a List.mem_cons_self, bindT_pure, ih]
    cases e : f a with
    | true => rw [if_pos rfl, h2 a List.mem_cons_self e, bindT_pure, bindT_pure, List.filter_cons_of_pos e, List.map_cons]
    | false => rw [if_neg (by simp), List.filter_cons_of_neg (by simp [e])]
theorem mapT_pure {h : α → β} : ∀ {l : List α}, (∀ a ∈ l, me a = pureT (h a)) → mapT me l = pureT (l.map h)
  | [], _ => rfl
  | a :: l, h1 => by
    unfold mapT
    rw [h1 a List.mem_cons_self, bindT_pure, mapT_pure fun b hb => h1 b (List.mem_cons_of_mem _ hb), bindT_pure, List.map_cons]
theorem compT_id {f : α → Bool} {h : α → β} (l : List α) : compT (fun a => pureT (f a)) (fun a => pureT (h a)) l = pureT ((l.filter f).map h) := compT_pure (fun _ _ => rfl) fun _ _ _ => rfl
theorem en_lcV {l : List α} {f : α → Bool} {h : α → β} (hi : EI Γ src (pureT l) ea Γ1) (hw : wipeS Γ1 vs = Γ1) (ha : ∀ a, asg p (ea a) Γ1 = some (Γa a)) (hb : ∀ a, wipeS (Γa a) vs = Γ1) (ht : ∀ a, EB (Γa a) test (pureT (f a)) (Γa a)) (he : ∀ a, ET (Γa a) elt (pureT (h a)) eb (Γa a)) : EN Γ (mLc src p vs test elt) (pureT ((l.filter f).map h)) true (eL eb) Γ1 := by
  have := en_lc hi hw ha hb ht he
  rwa [bindT_pure, compT_id] at this
/-! ### statements -/
inductive Flo (β ρ : Type) where
  | nx (b : β) | rt (r : ρ)
def JN (Γ : Sl) (s : M Dk Fl) (m : TM β) (Γ' : β → Sl) : Prop := ∀ st g b g', Sat Γ st → m g = some (b, g') → ∃ st', s st g = some (.nx, st', g') ∧ Sat (Γ' b) st'
def JB (Γ : Sl) (s : M Dk Fl) (m : TM ρ) (er : ρ → D) : Prop := ∀ st g r g', Sat Γ st → m g = some (r, g') → ∃ st', s st g = some (.rt (er r), st', g')
def FloOk (x : Option (Fl × Sl × Dk)) (Γ' : β → Sl) (er : ρ → D) (g' : Dk) : Flo β ρ → Prop
  | .nx b => ∃ st', x = some (.nx, st', g') ∧ Sat (Γ' b) st'
  | .rt r => ∃ st', x = some (.rt (er r), st', g')
def JF (Γ : Sl) (s : M Dk Fl) (m : TM (Flo β ρ)) (Γ' : β → Sl) (er : ρ → D) : Prop := ∀ st g r g', Sat Γ st → m g = some (r, g') → FloOk (s st g) Γ' er g' r
variable {s1 s2 : M Dk Fl} {m1 : TM β} {m2 : β → TM γ} {Γb : β → Sl} {Γc : γ → Sl} {er : ρ → D} {mr : TM ρ} {mr2 : β → TM ρ} {mf : TM (Flo β ρ)} {mf2 : β → TM (Flo γ ρ)} {c : M Dk Bool} {mt1 : TM Bool}
theorem sn_wk {f : β → γ} (h : JN Γ s1 m1 Γb) (hw : ∀ b, Wk (Γc (f b)) (Γb b)) : JN Γ s1 (bindT m1 fun b => pureT (f b)) Γc := fun st g b g' hs hm => by
  obtain ⟨b, g1, m1, hm⟩ := bind_eq hm
  obtain ⟨rfl, rfl⟩ := pure_eq hm
  obtain ⟨st', h1, h2⟩ := h st g b g1 hs m1
  exact ⟨st', h1, (hw b).sat.trans h2⟩
theorem sn_set {ma : TM α} {Γ' : α → Sl} (he : EN Γ e ma ow ea Γ1) (hi : i < Γ1.length) (hΓ : ∀ a, Γ1.set i (some (sOf ow (ea a))) = Γ' a) : JN Γ (mSet i e) ma Γ' := fun st g a g' hs hm => by
  obtain ⟨st', h1, h2⟩ := he st g a g' hs hm
  refine ⟨st'.set i (some (sOf ow (ea a))), ?_, by rw [← hΓ]; exact h2.set _⟩
  unfold mSet
  rw [h1, bnd_some, if_pos (by rw [h2.1]; exact hi)]
  cases ow <;> rfl
theorem sn_next {b : β} (hw : Wk (Γb b) Γ) : JN Γ mNext (pureT b) Γb := fun st g a g' hs hm => by
  obtain ⟨rfl, rfl⟩ := pure_eq hm
  exact ⟨st, rfl, hw.sat.trans hs⟩
theorem sn_seq (h1 : JN Γ s1 m1 Γb) (h2 : ∀ b, JN (Γb b) s2 (m2 b) Γc) : JN Γ (mSeq s1 s2) (bindT m1 m2) Γc := fun st g b g' hs hm => by
  obtain ⟨b, g1, e1, hm⟩ := bind_eq hm
  obtain ⟨st1, e2, hs1⟩ := h1 st g b g1 hs e1
  unfold mSeq
  rw [e2, bnd_some]
  exact h2 b st1 g1 _ g' hs1 hm
theorem sb_seq (h1 : JN Γ s1 m1 Γb) (h2 : ∀ b, JB (Γb b) s2 (mr2 b) er) : JB Γ (mSeq s1 s2) (bindT m1 mr2) er := fun st g b g' hs hm => by
  obtain ⟨b, g1, e1, hm⟩ := bind_eq hm
  obtain ⟨st1, e2, hs1⟩ := h1 st g b g1 hs e1
  unfold mSeq
  rw [e2, bnd_some]
  exact h2 b st1 g1 _ g' hs1 hm
theorem sf_seq (h1 : JN Γ s1 m1 Γb) (h2 : ∀ b, JF (Γb b) s2 (mf2 b) Γc er) : JF Γ (mSeq s1 s2) (bindT m1 mf2) Γc er := fun st g b g' hs hm => by
  obtain ⟨b, g1, e1, hm⟩ := bind_eq hm
  obtain ⟨st1, e2, hs1⟩ := h1 st g b g1 hs e1
  unfold mSeq
  rw [e2, bnd_some]
  exact h2 b st1 g1 _ g' hs1 hm
def bindF (m : TM (Flo β ρ)) (k : β → TM ρ) : TM ρ := bindT m fun r => match r with
  | .nx b => k b
  | .rt r => pureT r
def bindFF (m : TM (Flo β ρ)) (k : β → TM (Flo γ ρ)) : TM (Flo γ ρ) := bindT m fun r => match r with
  | .nx b => k b
  | .rt r => pureT (.rt r)
@[simp] theorem bindF_nx (b : β) (k : β → TM ρ) : bindF (pureT (.nx b)) k = k b := rfl
@[simp] theorem bindF_rt (r : ρ) (k : β → TM ρ) : bindF (pureT (.rt r)) k = pureT r := rfl
@[simp] theorem bindFF_nx (b : β) (k : β → TM (Flo γ ρ)) : bindFF (pureT (.nx b)) k = k b := rfl
@[simp] theorem bindFF_rt (r : ρ) (k : β → TM (Flo γ ρ)) : bindFF (pureT (.rt r)) k = pureT (.rt r) := rfl
theorem sb_seqF (h1 : JF Γ s1 mf Γb er) (h2 : ∀ b, JB (Γb b) s2 (mr2 b) er) : JB Γ (mSeq s1 s2) (bindF mf mr2) er := fun st g r g' hs hm => by
  obtain ⟨f, g1, e1, hm⟩ := bind_eq hm
  have h := h1 st g f g1 hs e1
  unfold mSeq
  cases f with
  | nx b =>
    obtain ⟨st1, e2, hs1⟩ := h
    rw [e2, bnd_some]
    exact h2 b st1 g1 r g' hs1 hm
  | rt q =>
    obtain ⟨rfl, rfl⟩ := pure_eq hm
    obtain ⟨st1, e2⟩ := h
    rw [e2, bnd_some]
    exact ⟨st1, rfl⟩
theorem sf_seqF (h1 : JF Γ s1 mf Γb er) (h2 : ∀ b, JF (Γb b) s2 (mf2 b) Γc er) : JF Γ (mSeq s1 s2) (bindFF mf mf2) Γc er := fun st g r g' hs hm => by
  obtain ⟨f, g1, e1, hm⟩ := bind_eq hm
  have h := h1 st g f g1 hs e1
  unfold mSeq
  cases f with
  | nx b =>
    obtain ⟨st1, e2, hs1⟩ := h
    rw [e2, bnd_some]
    exact h2 b st1 g1 r g' hs1 hm
  | rt q =>
    obtain ⟨rfl, rfl⟩ := pure_eq hm
    obtain ⟨st1, e2⟩ := h
    rw [e2, bnd_some]
    exact ⟨st1, rfl⟩
theorem sb_ret (h : ET Γ e mr er Γ1) : JB Γ (mRet e) mr er := fun st g r g' hs hm => by
  obtain ⟨st1, h1, _⟩ := h st g r g' hs hm
  exact ⟨st1, by unfold mRet; rw [h1]; rfl⟩
theorem sf_sb (h : JB Γ s1 mr er) : JF Γ s1 (bindT mr fun r => pureT (.rt r)) Γb er := fun st g r g' hs hm => by
  obtain ⟨r, g1, e1, hm⟩ := bind_eq hm
  obtain ⟨rfl, rfl⟩ := pure_eq hm
  exact h st g r g1 hs e1
theorem sf_sn (h : JN Γ s1 m1 Γb) : JF Γ s1 (bindT m1 fun b => pureT (.nx b)) Γb er := fun st g r g' hs hm => by
  obtain ⟨b, g1, e1, hm⟩ := bind_eq hm
  obtain ⟨rfl, rfl⟩ := pure_eq hm
  exact h st g b g1 hs e1
theorem sn_if {m2 m3 : TM β} (hc : EB Γ c mt1 Γ) (h1 : JN Γ s1 m2 Γb) (h2 : JN Γ s2 m3 Γb) : JN Γ (mIf c s1 s2) (bindT mt1 fun b => if b = true then m2 else m3) Γb := fun st g r g' hs hm => by
  obtain ⟨b, g1, e1, hm⟩ := bind_eq hm
  obtain ⟨st1, h3, hs1⟩ := hc st g b g1 hs e1
  unfold mIf
  rw [h3, bnd_some]
  cases b with
  | true => exact h1 st1 g1 r g' hs1 hm
  | false => exact h2 st1 g1 r g' hs1 hm
theorem sf_if {m2 m3 : TM (Flo β ρ)} (hc : EB Γ c mt1 Γ) (h1 : JF Γ s1 m2 Γb er) (h2 : JF Γ s2 m3 Γb er) : JF Γ (mIf c s1 s2) (bindT mt1 fun b => if b = true then m2 else m3) Γb er := fun st g r g' hs hm => by
  obtain ⟨b, g1, e1, hm⟩ := bind_eq hm
  obtain ⟨st1, h3, hs1⟩ := hc st g b g1 hs e1
  unfold mIf
  rw [h3, bnd_some]
  cases b with
  | true => exact h1 st1 g1 r g' hs1 hm
  | false => exact h2 st1 g1 r g' hs1 hm
theorem sf_ifret {m2 : TM ρ} {m3 : TM (Flo β ρ)} (hc : EB Γ c mt1 Γ) (h1 : JB Γ s1 m2 er) (h2 : JF Γ s2 m3 Γb er) : JF Γ (mSeq (mIf c s1 mNext) s2) (bindT mt1 fun b => if b = true then bindT m2 fun r => pureT (.rt r) else m3) Γb er := fun st g r g' hs hm => by
  obtain ⟨b, g1, e1, hm⟩ := bind_eq hm
  obtain ⟨st1, h3, hs1⟩ := hc st g b g1 hs e1
  unfold mSeq mIf
  rw [h3, bnd_some]
  cases b with
  | true =>
    rw [if_pos rfl] at hm
    obtain ⟨q, g2, e2, hm⟩ := bind_eq hm
    obtain ⟨rfl, rfl⟩ := pure_eq hm
    obtain ⟨st2, h4⟩ := h1 st1 g1 q g2 hs1 e2
    exact ⟨st2, by simp only [if_true]; rw [h4]; rfl⟩
  | false => exact h2 st1 g1 r g' hs1 hm
/-! loops -/
def forT (body : α → β → TM β) : List α → β → TM β
  | [], b => pureT b
  | a :: l, b => bindT (body a b) fun b' => forT body l b'
def forF (body : α → β → TM (Flo β ρ)) : List α → β → TM (Flo β ρ)
  | [], b => pureT (.nx b)
  | a :: l, b => bindFF (body a b) fun b' => forF body l b'
variable {body : M Dk Fl} {Γab : α → β → Sl}
theorem for_run {mb : α → β → TM β} (ha : ∀ a b, asg p (ea a) (Γb b) = some (Γab a b)) (hb : ∀ a b, JN (Γab a b) body (mb a b) Γb) :
    ∀ (l : List α) (b : β) (st : Sl) (g : Dk) (r : β) (g' : Dk), Sat (Γb b) st → forT mb l b g = some (r, g') → ∃ st', forM p body (l.map ea) st g = some (.nx, st', g') ∧ Sat (Γb r) st'
  | [], b, st, g, r, g', hs, hm => by
    obtain ⟨rfl, rfl⟩ := pure_eq hm
    exact ⟨st, rfl, hs⟩
  | a :: l, b, st, g, r, g', hs, hm => by
    unfold forT at hm
    obtain ⟨b1, g1, e1, hm⟩ := bind_eq hm
    obtain ⟨st1, e2, hs1⟩ := Sat.asg p (ea a) hs (ha a b)
    obtain ⟨st2, e3, hs2⟩ := hb a b st1 g b1 g1 hs1 e1
    rw [List.map_cons]
    unfold forM
    rw [e2, Option.bind_some, e3, bnd_some]
    exact for_run ha hb l b1 st2 g1 r g' hs2 hm
theorem forF_run {mb : α → β → TM (Flo β ρ)} (ha : ∀ a b, asg p (ea a) (Γb b) = some (Γab a b)) (hb : ∀ a b, JF (Γab a b) body (mb a b) Γb er) :
    ∀ (l : List α) (b : β) (st : Sl) (g : Dk) (r : Flo β ρ) (g' : Dk), Sat (Γb b) st → forF mb l b g = some (r, g') → FloOk (forM p body (l.map ea) st g) Γb er g' r
  | [], b, st, g, r, g', hs, hm => by
    obtain ⟨rfl, rfl⟩ := pure_eq hm
    exact ⟨st, rfl, hs⟩
  | a :: l, b, st, g, r, g', hs, hm => by
    unfold forF at hm
    obtain ⟨q, g1, e1, hm⟩ := bind_eq hm
    obtain ⟨st1, e2, hs1⟩ := Sat.asg p (ea a) hs (ha a b)
    have h := hb a b st1 g q g1 hs1 e1
    rw [List.map_cons]
    unfold forM
    rw [e2, Option.bind_some]
    cases q with
    | nx b1 =>
      obtain ⟨st2, e3, hs2⟩ := h
      rw [e3, bnd_some]
      exact forF_run ha hb l b1 st2 g1 r g' hs2 hm
    | rt q =>
      obtain ⟨rfl, rfl⟩ := pure_eq hm
      obtain ⟨st2, e3⟩ := h
      rw [e3, bnd_some]
      exact ⟨st2, rfl⟩
theorem sn_for {mb : α → β → TM β} {b0 : β} (hi : EI Γ src ml ea Γ1) (h0 : Wk (Γb b0) Γ1) (ha : ∀ a b, asg p (ea a) (Γb b) = some (Γab a b)) (hb : ∀ a b, JN (Γab a b) body (mb a b) Γb) : JN Γ (mFor src p body) (bindT ml fun l => forT mb l b0) Γb := fun st g r g' hs hm => by
  obtain ⟨l, g1, e1, hm⟩ := bind_eq hm
  obtain ⟨c, st1, h1, hs1⟩ := hi st g l g1 hs e1
  unfold mFor
  rw [h1, bnd_some]
  exact for_run ha hb l b0 st1 g1 r g' (h0.sat.trans hs1) hm
theorem sf_for {mb : α → β → TM (Flo β ρ)} {b0 : β} (hi : EI Γ src ml ea Γ1) (h0 : Wk (Γb b0) Γ1) (ha : ∀ a b, asg p (ea a) (Γb b) = some (Γab a b)) (hb : ∀ a b, JF (Γab a b) body (mb a b) Γb er) : JF Γ (mFor src p body) (bindT ml fun l => forF mb l b0) Γb er := fun st g r g' hs hm => by
  obtain ⟨l, g1, e1, hm⟩ := bind_eq hm
  obtain ⟨c, st1, h1, hs1⟩ := hi st g l g1 hs e1
  unfold mFor
  rw [h1, bnd_some]
  exact forF_run ha hb l b0 st1 g1 r g' (h0.sat.trans hs1) hm
/-- a loop that ends early, or goes on -/
theorem forF_wp {mb : α → β → TM (Flo β ρ)} {Q : Flo β ρ → Dk → Prop} (J : Nat → β → Dk → Prop) : ∀ (l : List α) (k : Nat) (b : β) (g : Dk), J k b g → (∀ j a b g, l[j]? = some a → J (k + j) b g → wpT (mb a b) g fun r g' => match r with | .nx b' => J (k + j + 1) b' g' | .rt r => Q (.rt r) g') → (∀ b g', J (k + l.length) b g' → Q (.nx b) g') → wpT (forF mb l b) g Q
  | [], k, b, g, h0, _, hq => wpT_pure (hq b g (by simpa using h0))
  | a :: l, k, b, g, h0, hs, hq => by
    unfold forF
    refine wpT_bind (wpT_mono (hs 0 a b g rfl h0) fun r g1 h1 => ?_)
    cases r with
    | rt r => exact wpT_pure h1
    | nx b1 =>
      refine forF_wp J l (k + 1) b1 g1 h1 (fun j a b g e h => ?_) fun r g2 h2 => hq _ _ ?_
      · have := hs (j + 1) a b g e (by rw [show k + (j + 1) = k + 1 + j by omega]; exact h)
        rw [show k + (j + 1) + 1 = k + 1 + j + 1 by omega] at this
        exact this
      · rw [List.length_cons, show k + (l.length + 1) = k + 1 + l.length by omega]; exact h2
/-! functions -/
theorem fn_ok {n k : Nat} {B : M Dk Fl} {ds : List D} (h : JB Γ B mr er) (hl : ds.length = n) (hΓ : ds.map (fun d => some (S.sh d)) ++ List.replicate (k - n) none = Γ) {g g' : Dk} {r : ρ} (hm : mr g = some (r, g')) : mFn n k B ds g = some (er r, g') := by
  subst hΓ
  obtain ⟨st', e⟩ := h _ g r g' Sat.refl hm
  exact mFn_rt hl e
end
end DL
namespace DL
open PySem PySem.Spec PyProof.Rows L2
/-! ### values put otherwise -/
end DL
namespace DL
open PySem PySem.Spec PyProof.Rows L2
/-! ### small tools -/
theorem zipD_eq (xs ys : List D) : zipD xs ys = (xs.zip ys).map fun p => D.tup [p.1, p.2] := by
  unfold zipD
  rw [List.zip, List.map_zipWith]
/-! ### pairs, rows, rising -/
/-! ### names, by the law -/
theorem eqv_int (a b : Int) : PyData.eqv (.int a) (.int b) = decide (a = b) := by simp [PyData.eqv]; rfl
end DL
namespace DL
open PySem PySem.Spec PyProof.Rows L2
/-- names -/
def strD : D → Str
  | .str s => s
  | _ => ⟨#[]⟩
end DL
namespace DL
open PySem PySem.Spec PyProof.Rows L2
/-! ### schemes are fine -/
theorem wts_map {α : Type} (l : List α) (f : α → D) (B : Nat) (h : ∀ a ∈ l, wt (f a) ≤ B) : wts (l.map f) ≤ l.length * (B + 2) := by
  induction l with
  | nil => simp [wts]
  | cons a l ih =>
    have h1 := h a List.mem_cons_self
    have h2 := ih fun a ha => h a (List.mem_cons_of_mem _ ha)
    simp only [List.map_cons, wts, List.length_cons, Nat.succ_mul]
    omega
theorem wts_le {l : List D} {B : Nat} (h : ∀ d ∈ l, wt d ≤ B) : wts l ≤ l.length * (B + 2) := by
  have := wts_map l id B h
  rw [List.map_id] at this; exact this
theorem Fi.map_tup {α : Type} {l : List α} {f : α → D} {B k L N : Nat} (h : ∀ a ∈ l, Fi B k (f a)) (hl : l.length ≤ L) (hN : L * (B + 2) + 3 ≤ N) : Fi N (k + 1) (.tup (l.map f)) :=
  Fi.tup (fun d hd => by obtain ⟨a, ha, rfl⟩ := List.mem_map.mp hd; exact ⟨(h a ha).ok, (h a ha).dp⟩) (by
    have := wts_map l f B fun a ha => (h a ha).w
    have : l.length * (B + 2) ≤ L * (B + 2) := Nat.mul_le_mul_right _ hl
    omega)
theorem Fi.list_tup {l : List D} {B k L N : Nat} (h : ∀ d ∈ l, Fi B k d) (hl : l.length ≤ L) (hN : L * (B + 2) + 3 ≤ N) : Fi N (k + 1) (.tup l) := by
  have := Fi.map_tup (l := l) (f := id) h hl hN
  rw [List.map_id] at this; exact this
theorem Fi.list_lst {l : List D} {B k L N : Nat} (h : ∀ d ∈ l, Fi B k d) (hl : l.length ≤ L) (hN : L * (B + 2) + 3 ≤ N) : Fi N (k + 1) (.lst l) :=
  Fi.lst (fun d hd => ⟨(h d hd).ok, (h d hd).dp⟩) (by
    have := wts_le fun d hd => (h d hd).w
    have : l.length * (B + 2) ≤ L * (B + 2) := Nat.mul_le_mul_right _ hl
    omega)
theorem fi_str {s : Str} {B : Nat} (h : strOk s = true) (hl : 10 * s.length + 2 ≤ B) : Fi B 0 (.str s) := ⟨by simpa only [okD] using h, by simpa only [wt] using hl, by simp [D.py, PyData.depth]⟩
theorem fi_i {i : Int} (h : i.natAbs < 2 ^ 1920) : Fi 2000 0 (.int i) := ⟨by
  have : i.natAbs.log2 < 1920 := by
    by_cases e : i.natAbs = 0
    · rw [e]; decide
    · exact (Nat.log2_lt e).mpr h
  simp only [okD, this, decide_true], by simp [wt], by simp [D.py, PyData.depth]⟩
theorem colNames_ok : ∀ s ∈ colNames, strOk s = true ∧ s.length ≤ 6 ∧ nameB (.str s) = true := by decide +kernel
theorem dialNames_ok : ∀ s ∈ dialNames, strOk s = true ∧ s.length ≤ 6 ∧ nameB (.str s) = true := by decide +kernel
theorem headNames_ok : ∀ s ∈ headNames, strOk s = true ∧ s.length ≤ 6 ∧ nameB (.str s) = true := by decide +kernel
theorem fi_of {s : Str} (h : strOk s = true ∧ s.length ≤ 6 ∧ nameB (.str s) = true) : Fi 62 0 (.str s) := fi_str h.1 (by omega)
theorem fi_tx {l : List Str} {L N : Nat} (h : ∀ s ∈ l, strOk s = true ∧ s.length ≤ 6 ∧ nameB (.str s) = true) (hl : l.length ≤ L) (hN : L * 64 + 3 ≤ N) : Fi N 1 (.tup (tx l)) :=
  Fi.map_tup (fun s hs => fi_of (h s hs)) hl hN
section
variable {dl : List (Str × Str)} {hs : List (Str × List Str)}
theorem Dials.fi (hd : Dials dl) : Fi 800 2 (.tup (dl.map dialE)) := by
  refine Fi.map_tup (B := 131) (L := 5) (fun p hp => ?_) hd.few (by decide)
  unfold dialE
  refine Fi.list_tup (B := 62) (L := 2) (fun d hd' => ?_) (by simp) (by decide)
  simp only [List.mem_cons, List.not_mem_nil, or_false] at hd'
  rcases hd' with rfl | rfl
  · exact fi_of (colNames_ok _ (hd.col p hp))
  · exact fi_of (dialNames_ok _ (hd.dial p hp))
theorem Heads.col (hd : Dials dl) (hh : Heads dl hs) : ∀ p ∈ hs, ∀ c ∈ p.2, c ∈ colNames := fun p hp c hc => by
  obtain ⟨q, hq, rfl⟩ := List.mem_map.mp (hh.sub p hp c hc)
  exact hd.col q hq
theorem Heads.fi (hd : Dials dl) (hh : Heads dl hs) : Fi 1200 3 (.tup (hs.map headE)) := by
  refine Fi.map_tup (B := 266) (L := 4) (fun p hp => ?_) hh.few (by decide)
  unfold headE
  have f1 : Fi 62 0 (.str p.1) := fi_of (headNames_ok _ (hh.name p hp))
  have f2 : Fi 195 1 (.tup (tx p.2)) := fi_tx (L := 3) (fun s hs' => colNames_ok s (hh.col hd p hp s hs')) (hh.cfew p hp) (by decide)
  refine Fi.tup (k := 1) (fun d hd' => ?_) (by simp only [wts]; have := f1.w; have := f2.w; omega)
  simp only [List.mem_cons, List.not_mem_nil, or_false] at hd'
  rcases hd' with rfl | rfl
  · exact ⟨f1.ok, by have := f1.dp; omega⟩
  · exact ⟨f2.ok, f2.dp⟩
theorem sch_fi (hd : Dials dl) (hh : Heads dl hs) : Fi 2100 4 (schE dl hs) := by
  unfold schE
  have f1 := hd.fi
  have f2 := hh.fi hd
  refine Fi.tup (k := 3) (fun d hd' => ?_) (by simp only [wts]; have := f1.w; have := f2.w; omega)
  simp only [List.mem_cons, List.not_mem_nil, or_false] at hd'
  rcases hd' with rfl | rfl
  · exact ⟨f1.ok, by have := f1.dp; omega⟩
  · exact ⟨f2.ok, f2.dp⟩
end
theorem msD_len (l : List D) : (msD l).length = l.length := List.length_mergeSort l
end DL
namespace DL
open PySem PySem.Spec PyProof.Rows L2
/-- tuples that may be sorted -/
theorem okSort_tups {l : List D} (hp : ∀ d ∈ l, d.pl = true ∧ isTp d = true ∧ d.py.depth ≤ 100) (ha : ∀ a ∈ l, ∀ b ∈ l, PySem.W.alike a.py b.py = true) : okSort l = true := by
  simp only [okSort, Bool.and_eq_true, Bool.or_eq_true, List.all_eq_true, decide_eq_true_eq]
  refine ⟨⟨⟨?_, ha⟩, depthAll_le fun d hd => (hp d hd).2.2⟩, .inl fun d hd => (hp d hd).2.1⟩
  clear ha
  induction l with
  | nil => rfl
  | cons d l ih => simp only [D.pls, (hp d List.mem_cons_self).1, ih fun d hd => hp d (List.mem_cons_of_mem _ hd), Bool.and_self]
theorem opSort_lst {l : List D} (h : okSort l = true) : opSort (.lst l) = some (.ow (.lst (msD l))) := by simp only [opSort, h, if_true]
@[simp] theorem opApp_lst {l : List D} {d : D} (h : l.length < sizeLine) : opApp (.lst l) d = some (.lst (l ++ [d])) := by
  simp [opApp, h]
end DL
namespace DL
open PySem PySem.Spec PyProof.Rows L2
noncomputable def C__law_tables_0 : M Dk S := (mLc (srcSeq (mVar 6)) (.nm 9) [9] mYes (mCall F__law_next (mCons (mVar 0) (mCons (mVar 4) mNil))))
noncomputable def L__law_tables_1 : M Dk Fl := (mDrop (mMethL 7 opApp (mUn opTuple C__law_tables_0)))
noncomputable def L__law_tables_2 : M Dk Fl := (mSeq (mSet 7 (mLst mNil)) (mSeq (mFor (srcRange1 (mCall F__law_next (mCons (mVar 0) (mCons (mOp opAdd (mVar 2) (mC (.int 1))) mNil)))) (.nm 8) L__law_tables_1) (mDrop (mMethL 3 opApp (mUn opTuple (mUn opSS2 (mVar 7)))))))
noncomputable def B__law_tables : M Dk Fl := (mSeq (mPar 3 4 (mLst mNil) (mCall F__law_one (mCons (mVar 0) (mCons (mLst (mCons (mC (.int 2)) (mCons (mC (.int 3)) (mCons (mC (.int 3)) (mCons (mC (.int 100)) mNil))))) mNil)))) (mSeq (mFor (srcSeq (mOp opIx (mVar 1) (mC (.int 1)))) (.tp [(.nm 5), (.nm 6)]) L__law_tables_2) (mRet (mUn opTuple (mVar 3)))))
noncomputable def F__law_tables : Fn Dk := mFn 3 10 B__law_tables
/-! ### whole numbers, rows, tables -/
section
variable {N k w : Nat} {v : D} {l : List D} {g : Dk}
/-- a row of numbers -/
def rowE (r : List Int) : D := .tup (r.map D.int)
theorem alike_ints : ∀ xs ys : List Int, PySem.W.alikeAll (D.pys (xs.map D.int)) (D.pys (ys.map D.int)) = true
  | [], _ => by simp [D.pys, PySem.W.alikeAll]
  | _ :: _, [] => by simp [D.pys, PySem.W.alikeAll]
  | x :: xs, y :: ys => by
    have := alike_ints xs ys
    simp only [List.map_cons, D.pys, PySem.W.alikeAll, D.py, PySem.W.alike, Bool.true_and]
    exact this
theorem alike_rows (a b : List Int) : PySem.W.alike (rowE a).py (rowE b).py = true := by
  simp only [rowE, D.py, PySem.W.alike, alike_ints]
theorem depth_ints (a : List Int) : PyData.depthAll (D.pys (a.map D.int)) ≤ 0 := depthAll_le fun d hd => by
  obtain ⟨x, _, rfl⟩ := List.mem_map.mp hd
  simp [D.py, PyData.depth]
theorem depth_row (a : List Int) : (rowE a).py.depth ≤ 1 := by
  have := depth_ints a
  simp only [rowE, D.py, PyData.depth]
  omega
theorem zip_heads (hs : List (Str × List Str)) (l : List D) : zipD (hs.map headE) l = (hs.zip l).map fun p => D.tup [headE p.1, p.2] := by
  rw [zipD_eq, List.zip_map_left, List.map_map]
  rfl
end
end DL
namespace DL
open PySem PySem.Spec PyProof.Rows L2
/-! ### sets of rows -/
theorem nk_ints : ∀ l : List Int, nksD (l.map D.int) = some (l.map NestedKey.num)
  | [] => rfl
  | x :: l => by simp only [List.map_cons, nksD, nkD, nk_ints l]
theorem nkDepth_ints : ∀ l : List Int, NestedKey.depthAll (l.map NestedKey.num) = 0 := by
  intro l
  induction l with
  | nil => simp [NestedKey.depthAll]
  | cons x l ih => simp [NestedKey.depthAll, NestedKey.depth, ih]
theorem okSN_rows (l : List (List Int)) (h : l.length < 64) : okSN (l.map rowE) = true := by
  simp only [okSN, Bool.and_eq_true, List.all_eq_true, decide_eq_true_eq, List.length_map]
  refine ⟨⟨fun d hd => ?_, fun a ha b hb => ?_⟩, h⟩
  · obtain ⟨r, _, rfl⟩ := List.mem_map.mp hd
    simp only [rowE, nkD, nk_ints, Option.map_some, decide_eq_true_eq, NestedKey.depth, nkDepth_ints]
    omega
  · obtain ⟨r, _, rfl⟩ := List.mem_map.mp ha
    obtain ⟨q, _, rfl⟩ := List.mem_map.mp hb
    exact alike_rows r q
theorem injT_rows (l : List (List Int)) : InjT (l.map rowE) := fun a ha b hb h1 h2 => by
  obtain ⟨r, _, rfl⟩ := List.mem_map.mp ha
  obtain ⟨q, _, rfl⟩ := List.mem_map.mp hb
  obtain ⟨ks, sn⟩ := okSN_keys (okSN_rows [r, q] (by simp))
  exact sn.inj _ (by simp) _ (by simp) h1 h2
def numD : D → Int
  | .int i => i
  | _ => 0
def unRow : D → List Int
  | .tup l => l.map numD
  | _ => []
theorem unRow_rowE (r : List Int) : unRow (rowE r) = r := by
  simp only [unRow, rowE, List.map_map]
  exact (List.map_congr_left fun i _ => rfl).trans (List.map_id r)
theorem rowE_inj {a b : List Int} (h : rowE a = rowE b) : a = b := by rw [← unRow_rowE a, h, unRow_rowE]
def ssR (l : List (List Int)) : List (List Int) := (ssD (l.map rowE)).map unRow
theorem ssR_eq (l : List (List Int)) : ssD (l.map rowE) = (ssR l).map rowE := by
  unfold ssR
  rw [List.map_map]
  refine ((List.map_id _).symm.trans (List.map_congr_left fun d hd => ?_))
  obtain ⟨r, _, rfl⟩ := List.mem_map.mp (ssD_sub hd)
  simp only [Function.comp, unRow_rowE, id]
theorem ssR_mem {l : List (List Int)} {x : List Int} : x ∈ ssR l ↔ x ∈ l := by
  have h : rowE x ∈ ssD (l.map rowE) ↔ rowE x ∈ l.map rowE := ssD_mem (injT_rows l)
  rw [ssR_eq] at h
  simp only [List.mem_map] at h
  constructor
  · intro hx
    obtain ⟨y, hy, e⟩ := h.mp ⟨x, hx, rfl⟩
    exact rowE_inj e ▸ hy
  · intro hx
    obtain ⟨y, hy, e⟩ := h.mpr ⟨x, hx, rfl⟩
    exact rowE_inj e ▸ hy
theorem ssR_asc (l : List (List Int)) : Asc ((ssR l).map rowE) := by rw [← ssR_eq]; exact ssD_asc _
theorem ssR_len (l : List (List Int)) : (ssR l).length ≤ l.length := by
  have := ssD_len (l.map rowE)
  rw [ssR_eq, List.length_map, List.length_map] at this
  exact this
theorem opSS2_rows {l : List (List Int)} (h : l.length < 64) : opSS2 (.lst (l.map rowE)) = some (.ow (.lst ((ssR l).map rowE))) := by
  have := okSN_rows l h
  simp only [opSS2, this, or_true, if_true, ssR_eq]
/-! ### tables -/
def tabE (t : List (List Int)) : D := .tup (t.map rowE)
structure Tab (m w : Nat) (t : List (List Int)) : Prop where
  few : t.length ≤ m
  wide : ∀ r ∈ t, r.length = w
  key : ∀ r ∈ t, ∀ i ∈ r, 0 ≤ i ∧ i ≤ 99
  asc : Asc (t.map rowE)
structure Tabs (m : Nat) (hs : List (Str × List Str)) (ts : List (List (List Int))) : Prop where
  len : ts.length = hs.length
  tab : ∀ p ∈ hs.zip ts, Tab m p.1.2.length p.2
theorem row_drawn {n w : Nat} {wd : Int} {cs : List D} {st : Sl} {g : Dk} (hw : 0 < wd) (hw2 : wd ≤ 100) (hc : cs.length = w) (h0 : st.length = 10) (s0 : st[0]? = some (some (.sh (.obj 0)))) (s4 : st[4]? = some (some (.sh (.int wd)))) (s6 : st[6]? = some (some (.sh (.tup cs)))) (ok : Ok (n + w) g) :
    ∃ (r : List Int) (g' : Dk), C__law_tables_0 st g = some (.ow (.lst (r.map D.int)), st.set 9 none, g') ∧ r.length = w ∧ (∀ i ∈ r, 0 ≤ i ∧ i ≤ 99) ∧ Ok n g' := by
  have : wp (C__law_tables_0 st g) fun s st' g' => ∃ r : List Int, s = .ow (.lst (r.map D.int)) ∧ st' = st.set 9 none ∧ r.length = w ∧ (∀ i ∈ r, 0 ≤ i ∧ i ≤ 99) ∧ Ok n g' := by
    unfold C__law_tables_0
    refine lc_wp (fun i acc g => ∃ r : List Int, acc = r.map D.int ∧ r.length = i ∧ (∀ i ∈ r, 0 ≤ i ∧ i ≤ 99) ∧ (i ≤ w → Ok (n + (w - i)) g)) (items := cs) (cells := [.sh (.tup cs)]) (by simp [s6]) rfl ⟨[], rfl, rfl, fun _ h => (nomatch h), fun _ => ok⟩ (fun i d acc g hi ⟨r, e1, e2, e3, e4⟩ => ?_) fun acc g ⟨r, e1, e2, e3, e4⟩ => ⟨r, by rw [e1], rfl, by omega, e3, (e4 (by omega)).mono (by omega)⟩
    have hil : i < cs.length := (List.getElem?_eq_some_iff.mp hi).1
    obtain ⟨q, g3, e5, q0, q1, ok3⟩ := next_ok (m := wd) (n := n + (w - (i + 1))) (g := g) ((e4 (by omega)).mono (by omega)) hw (by omega)
    refine ⟨(st.set 9 none).set 9 (some (.sh d)), by simp [h0], ?_⟩
    simp (dsimp := false) [s0, s4, e5]
    refine ⟨r ++ [q], by simp [e1], by simp [e2], fun j hj => ?_, fun _ => ok3⟩
    rcases List.mem_append.mp hj with h | h
    · exact e3 j h
    · simp at h; omega
  obtain ⟨s, st', g', e, r, rfl, rfl, h1, h2, h3⟩ := this
  exact ⟨r, g', e, h1, h2, h3⟩
theorem tables_ok {n m : Nat} {g : Dk} {dl : List (Str × Str)} {hs : List (Str × List Str)} (hh : Heads dl hs) (hm : m ≤ 20) (ok : Ok (n + 1 + 4 * (1 + 3 * m)) g) : ∃ ts g', F__law_tables [.obj 0, schE dl hs, .int m] g = some (.tup (ts.map tabE), g') ∧ Tabs m hs ts ∧ Ok n g' := by
  have : ∃ d g', F__law_tables [.obj 0, schE dl hs, .int m] g = some (d, g') ∧ ∃ ts, d = .tup (ts.map tabE) ∧ Tabs m hs ts ∧ Ok n g' := by
    refine mFn_wp rfl ?_
    show wp (B__law_tables [some (.sh (.obj 0)), some (.sh (schE dl hs)), some (.sh (.int m)), none, none, none, none, none, none, none] g) _
    obtain ⟨wd, g1, e1, hwd, ok1⟩ := one_lst (n := n + 4 * (1 + 3 * m)) (g := g) (ds := [.int 2, .int 3, .int 3, .int 100]) (ok.mono (by omega)) (by decide) (by decide)
    obtain ⟨wi, rfl, w0, w1⟩ : ∃ wi : Int, wd = .int wi ∧ 0 < wi ∧ wi ≤ 100 := by
      simp only [List.mem_cons, List.not_mem_nil, or_false] at hwd
      rcases hwd with rfl | rfl | rfl | rfl
      all_goals exact ⟨_, rfl, by decide, by decide⟩
    unfold schE
    simp (dsimp := false) [B__law_tables, e1, le_sz]
    repeat refine wp_thn ?_
    refine for_wp (fun i st g' => ∃ x5 x6 x7 x8 x9 ts, st = [some (.sh (.obj 0)), some (.sh (.tup [.tup (dl.map dialE), .tup (hs.map headE)])), some (.sh (.int m)), some (.ow (.lst (ts.map tabE))), some (.sh (.int wi)), x5, x6, x7, x8, x9] ∧ ts.length = i ∧ (∀ p ∈ (hs.take i).zip ts, Tab m p.1.2.length p.2) ∧ (i ≤ 4 → Ok (n + (4 - i) * (1 + 3 * m)) g')) ⟨_, _, _, _, _, [], rfl, rfl, fun p hp => by simp at hp, fun _ => ok1⟩ (fun i d st g' hi ⟨x5, x6, x7, x8, x9, ts, hst, h1, h2, h3⟩ => ?_) fun st g' ⟨x5, x6, x7, x8, x9, ts, hst, h1, h2, h3⟩ => ?_
    · subst hst
      have hil : i < hs.length := by have := (List.getElem?_eq_some_iff.mp hi).1; rwa [List.length_map] at this
      have hfew := hh.few
      rw [List.getElem?_map] at hi
      obtain ⟨h, eh, rfl⟩ := Option.map_eq_some_iff.mp hi
      have hmem := List.mem_of_getElem? eh
      have hcf := hh.cfew h hmem
      obtain ⟨K, hK⟩ : ∃ K, K = n + (4 - (i + 1)) * (1 + 3 * m) := ⟨_, rfl⟩
      have okK : Ok (K + 3 * m + 1) g' := (h3 (by omega)).mono (by
        rw [hK]
        have : (4 - i) * (1 + 3 * m) = (4 - (i + 1)) * (1 + 3 * m) + (1 + 3 * m) := by rw [show 4 - i = (4 - (i + 1)) + 1 by omega, Nat.succ_mul]
        omega)
      refine ⟨_, by show asg (.tp [.nm 5, .nm 6]) (.tup [.str h.1, .tup (h.2.map D.str)]) _ = _; simp; rfl, ?_⟩
      obtain ⟨q, g2, e2, q0, q1, ok2⟩ := next_ok (m := m + 1) (n := K + 3 * m) (g := g') okK (by omega) (by omega)
      have rr : okR q = true := okR_of (by omega) (by omega)
      have hts : ts.length < sizeLine := by rw [sizeLine_eq]; omega
      simp (dsimp := false) [L__law_tables_2, e2, rr, -Prod.forall, -Nat.reduceSubDiff]
      repeat refine wp_thn ?_
      refine for_wp (fun j st g' => ∃ x8 x9 rows, st = [some (.sh (.obj 0)), some (.sh (.tup [.tup (dl.map dialE), .tup (hs.map headE)])), some (.sh (.int m)), some (.ow (.lst (ts.map tabE))), some (.sh (.int wi)), some (.sh (.str h.1)), some (.sh (.tup (h.2.map D.str))), some (.ow (.lst (rows.map rowE))), x8, x9] ∧ rows.length = j ∧ (∀ r ∈ rows, r.length = h.2.length ∧ ∀ i ∈ r, 0 ≤ i ∧ i ≤ 99) ∧ (j ≤ m → Ok (K + 3 * (m - j)) g')) ⟨_, _, [], rfl, rfl, fun r hr => by simp at hr, fun _ => ok2⟩ (fun j d st g' hj ⟨x8, x9, rows, hst, r1, r2, r3⟩ => ?_) fun st g' ⟨x8, x9, rows, hst, r1, r2, r3⟩ => ?_
      · subst hst
        have hjl : j < q.toNat := by have := (List.getElem?_eq_some_iff.mp hj).1; rwa [rangeD_len] at this
        refine ⟨_, by simp; rfl, ?_⟩
        obtain ⟨r, g3, e3, s1, s2, ok3⟩ := row_drawn (n := K + 3 * (m - (j + 1))) (w := h.2.length) (wd := wi) (cs := h.2.map D.str) (st := [some (.sh (.obj 0)), some (.sh (.tup [.tup (dl.map dialE), .tup (hs.map headE)])), some (.sh (.int m)), some (.ow (.lst (ts.map tabE))), some (.sh (.int wi)), some (.sh (.str h.1)), some (.sh (.tup (h.2.map D.str))), some (.ow (.lst (rows.map rowE))), some (.sh d), x9]) (g := g') w0 w1 (by simp) rfl rfl rfl rfl ((r3 (by omega)).mono (by omega))
        have hrl : rows.length < sizeLine := by rw [sizeLine_eq]; omega
        have hr2 : r.length ≤ sizeLine := le_sz (by omega)
        simp (dsimp := false) [L__law_tables_1, e3, hrl, hr2, le_sz]
        refine ⟨_, _, rows ++ [r], ⟨by simp [rowE], rfl, rfl⟩, by simp [r1], fun x hx => ?_, fun _ => ok3⟩
        rcases List.mem_append.mp hx with hx | hx
        · exact r2 x hx
        · simp at hx; subst hx; exact ⟨s1, s2⟩
      · subst hst
        rw [rangeD_len] at r1 r3
        have os := opSS2_rows (l := rows) (by omega)
        have hl := ssR_len rows
        have hl2 : (ssR rows).length ≤ sizeLine := le_sz (by omega)
        simp (dsimp := false) [os, hts, hl2, le_sz, -Prod.forall, -Nat.reduceSubDiff]
        refine ⟨_, _, _, _, _, ts ++ [ssR rows], ⟨by simp [tabE], rfl, rfl, rfl, rfl, rfl⟩, by simp [h1], ?_, fun _ => by rw [← hK]; exact (r3 (by omega)).mono (by omega)⟩
        have tk : hs.take (i + 1) = hs.take i ++ [h] := by rw [List.take_add_one, eh]; rfl
        rw [tk, List.zip_append (by rw [List.length_take, h1]; omega)]
        intro p hp
        rcases List.mem_append.mp hp with hp | hp
        · exact h2 p hp
        · simp at hp; subst hp
          exact ⟨Nat.le_trans hl (by omega), fun r hr => (r2 r (ssR_mem.mp hr)).1, fun r hr => (r2 r (ssR_mem.mp hr)).2, ssR_asc rows⟩
    · subst hst
      rw [List.length_map] at h1 h2 h3
      have hfew := hh.few
      have hl : ts.length ≤ sizeLine := le_sz (by omega)
      rw [List.take_of_length_le (Nat.le_refl _)] at h2
      simp (dsimp := false) [hl, le_sz]
      exact ⟨ts, rfl, ⟨h1, h2⟩, (h3 hfew).mono (by omega)⟩
  obtain ⟨d, g', e, ts, rfl, h1, h2⟩ := this
  exact ⟨ts, g', e, h1, h2⟩
/-! ### dials of columns -/
end DL
namespace DL
open PySem PySem.Spec PyProof.Rows L2
theorem opNe_int (a b : Int) : opNe (.int a) (.int b) = some (.sh (.bl (!decide (a = b)))) := by
  have : okEq (.int a) (.int b) = true := by simp [okEq, D.pl, D.py, PyData.depth]
  simp only [opNe, this, if_true, eqD, D.py, eqv_int]
theorem small_fi {i : Int} (h : i.natAbs ≤ 1000000) : Fi 2000 0 (.int i) := fi_i (Nat.lt_of_le_of_lt h (by decide))
theorem tab_fi6 {w : Nat} {t : List (List Int)} (ht : Tab 6 w t) (hw : w ≤ 3) : Fi 36069 2 (tabE t) :=
  Fi.map_tup (B := 6009) (L := 6) (fun r hr => Fi.map_tup (B := 2000) (L := 3) (fun i hi => small_fi (by have := ht.key r hr i hi; omega)) (by have := ht.wide r hr; omega) (by decide)) ht.few (by decide)
theorem Tabs.in {m : Nat} {hs : List (Str × List Str)} {ts : List (List (List Int))} (h : Tabs m hs ts) {t : List (List Int)} (ht : t ∈ ts) : ∃ p ∈ hs, Tab m p.2.length t := by
  obtain ⟨i, hi, rfl⟩ := List.mem_iff_getElem.mp ht
  have hi2 : i < hs.length := by rw [← h.len]; exact hi
  refine ⟨hs[i], List.getElem_mem hi2, h.tab (hs[i], ts[i]) ?_⟩
  exact List.mem_iff_getElem.mpr ⟨i, by rw [List.length_zip]; omega, by rw [List.getElem_zip]⟩
theorem tabs_fi {dl : List (Str × Str)} {hs : List (Str × List Str)} {ts : List (List (List Int))} (hh : Heads dl hs) (h : Tabs 6 hs ts) : Fi 144287 3 (.tup (ts.map tabE)) :=
  Fi.map_tup (B := 36069) (L := 4) (fun t ht => by
    obtain ⟨p, hp, hT⟩ := h.in ht
    exact tab_fi6 hT (hh.cfew p hp)) (by rw [h.len]; exact hh.few) (by decide)
end DL
namespace DL
open PySem PySem.Spec PyProof.Rows L2
/-! ### the greatest common part -/
@[simp] theorem opAbs_int (i : Int) : opAbs (.int i) = some (.sh (.int (if i < 0 then -i else i))) := by
  simp only [opAbs]
structure Rate (r : Nat × Nat) : Prop where
  one : 1 ≤ r.1
  le : r.1 ≤ r.2
  most : r.2 ≤ 1000
  low : Nat.gcd r.1 r.2 = 1
def rateE (r : Nat × Nat) : D := .tup [.int r.1, .int r.2]
/-! ### is it a rate -/
def rateB (lo hi : Int) : D → Bool
  | .tup [.int a, .int b] => (decide (1 ≤ b) && decide (b ≤ hi)) && (decide (lo ≤ a) && decide (a ≤ b)) && decide (Nat.gcd a.natAbs b.natAbs = 1)
  | _ => false
end DL
namespace DL
open PySem PySem.Spec PyProof.Rows L2
noncomputable def C__law_any_frame_0 : M Dk S := (mLc (srcSeq (mOp opIx (mVar 1) (mC (.int 1)))) (.tp [(.nm 4), (.nm 5)]) [4, 5] mYes (mVar 4))
noncomputable def C__law_any_frame_1 : M Dk S := (mLc (srcRange1 (mVar 3)) (.nm 6) [6] mYes (mCall F__law_one (mCons (mVar 0) (mCons (mVar 2) mNil))))
noncomputable def B__law_any_frame : M Dk Fl := (mSeq (mSet 2 (mShr C__law_any_frame_0)) (mSeq (mSet 3 (mShr (mOp opAdd (mC (.int 1)) (mCall F__law_next (mCons (mVar 0) (mCons (mC (.int 6)) mNil)))))) (mRet (mUn opTuple (mUn opSS2 C__law_any_frame_1)))))
noncomputable def F__law_any_frame : Fn Dk := mFn 2 7 B__law_any_frame
@[simp] theorem at2 {a b c : D} {l : List D} : atI (a :: b :: c :: l) 2 = some c := by
  obtain ⟨d, e, h⟩ := atI_some (l := a :: b :: c :: l) (i := 2) (by decide) (by simp; omega)
  rw [e, ← h]; rfl
@[simp] theorem at3 {a b c d : D} {l : List D} : atI (a :: b :: c :: d :: l) 3 = some d := by
  obtain ⟨x, e, h⟩ := atI_some (l := a :: b :: c :: d :: l) (i := 3) (by decide) (by simp; omega)
  rw [e, ← h]; rfl
/-! ### plans -/
inductive W2 where
  | join | either | meet
  deriving DecidableEq
def W2.nm : W2 → Str
  | .join => "join"
  | .either => "either"
  | .meet => "meet"
inductive Plan where
  | all (t : Str)
  | thin (p : Plan) (c : Str) (r : Nat × Nat)
  | two (w : W2) (p q : Plan)
def planE : Plan → D
  | .all t => .tup [.str "all", .str t]
  | .thin p c r => .tup [.str "thin", planE p, .str c, rateE r]
  | .two w p q => .tup [.str w.nm, planE p, planE q]
def Plan.frame : Plan → List Str
  | .all t => [t]
  | .thin p _ _ => p.frame
  | .two w p q => if w = .join then ssT (p.frame ++ q.frame) else p.frame
def Plan.size : Plan → Nat
  | .all _ => 1
  | .thin p _ _ => p.size + 1
  | .two _ p q => p.size + q.size + 1
/-! ### frames, ascending -/
theorem tx_inj {a b : List Str} (h : tx a = tx b) : a = b := by
  have : (tx a).map strD = (tx b).map strD := by rw [h]
  rw [tx, tx, List.map_map, List.map_map] at this
  exact ((List.map_id a).symm.trans this).trans (List.map_id b)
theorem asc_eq {a b : List Str} (ha : Asc (tx a)) (hb : Asc (tx b)) (h : ∀ x, x ∈ a ↔ x ∈ b) : a = b := by
  refine tx_inj (asc_one ha hb fun y => ?_)
  simp only [tx, List.mem_map]
  constructor
  · rintro ⟨x, hx, rfl⟩; exact ⟨x, (h x).mp hx, rfl⟩
  · rintro ⟨x, hx, rfl⟩; exact ⟨x, (h x).mpr hx, rfl⟩
theorem asc_sub {a b : List Str} (h : a.Sublist b) (hb : Asc (tx b)) : Asc (tx a) := by
  unfold Asc at *
  rw [tx, List.pairwise_map] at *
  exact hb.sublist h
theorem asc_few {a L : List Str} (ha : Asc (tx a)) (h : ∀ x ∈ a, x ∈ L) : a.length ≤ L.length := by
  have e : a = (ssT L).filter fun x => decide (x ∈ a) := by
    refine asc_eq ha (asc_sub List.filter_sublist (ssT_asc L)) fun x => ?_
    simp only [List.mem_filter, ssT_mem, decide_eq_true_eq]
    exact ⟨fun hx => ⟨h x hx, hx⟩, fun hx => hx.2⟩
  rw [e]
  exact Nat.le_trans (List.length_filter_le _ _) (ssT_len L)
theorem opSS2_lx {l : List Str} (h : l.length < 64) : opSS2 (.lst (tx l)) = some (.ow (.lst (tx (ssT l)))) := by simp only [opSS2, okSS_strs h, true_or, if_true, ssT_eq]
theorem Frame.len {dl : List (Str × Str)} {hs : List (Str × List Str)} {fr : List Str} (hh : Heads dl hs) (h : Frame hs fr) : fr.length ≤ 4 := by
  have := asc_few h.asc h.sub
  rw [List.length_map] at this
  have := hh.few
  omega
theorem Frame.of {dl : List (Str × Str)} {hs : List (Str × List Str)} {fr : List Str} (hh : Heads dl hs) (h1 : fr ≠ []) (h2 : Asc (tx fr)) (h3 : ∀ x ∈ fr, x ∈ hs.map (·.1)) : Frame hs fr := ⟨h1, h2, h3, by
  have := asc_few h2 h3
  rw [List.length_map] at this
  have := hh.few
  omega⟩
end DL
namespace DL
open PySem PySem.Spec PyProof.Rows L2
@[simp] theorem opSub_int (a b : Int) : opSub (.int a) (.int b) = some (.sh (.int (a - b))) := by simp [opSub, opI2]
section
variable {dl : List (Str × Str)} {hs : List (Str × List Str)}
theorem cols_ne (hh : Heads dl hs) {fr : List Str} (h : Frame hs fr) : colsL hs fr ≠ [] := by
  obtain ⟨x, hx⟩ := List.exists_mem_of_ne_nil fr h.ne
  obtain ⟨p, hp, e⟩ := List.mem_map.mp (h.sub x hx)
  refine ssT_ne fun he => ?_
  obtain ⟨c, hc⟩ := List.exists_mem_of_ne_nil _ (hh.cne p hp)
  have : c ∈ (hs.filter fun p => decide (p.1 ∈ fr)).flatMap (·.2) := List.mem_flatMap.mpr ⟨p, List.mem_filter.mpr ⟨hp, by simp [e, hx]⟩, hc⟩
  rw [he] at this
  cases this
theorem cols_len (hd : Dials dl) (hh : Heads dl hs) {fr : List Str} : (colsL hs fr).length ≤ 5 := by
  have := asc_few (ssT_asc _) (cols_in (fr := fr) hh)
  rw [List.length_map] at this
  have := hd.few
  unfold colsL at *
  omega
theorem sub_frame (hh : Heads dl hs) {fr a : List Str} (h : Frame hs fr) (hs' : a.Sublist fr) (hn : a ≠ []) : Frame hs a := Frame.of hh hn (asc_sub hs' h.asc) fun x hx => h.sub x (hs'.subset hx)
end
end DL
namespace DL
open PySem PySem.Spec PyProof.Rows L2
section
variable {dl : List (Str × Str)} {hs : List (Str × List Str)}
theorem anyFrame_ok {n : Nat} {g : Dk} (hh : Heads dl hs) (ok : Ok (n + 7) g) : ∃ fr g', F__law_any_frame [.obj 0, schE dl hs] g = some (.tup (tx fr), g') ∧ Frame hs fr ∧ Ok n g' := by
  have : ∃ d g', F__law_any_frame [.obj 0, schE dl hs] g = some (d, g') ∧ ∃ fr, d = .tup (tx fr) ∧ Frame hs fr ∧ Ok n g' := by
    refine mFn_wp rfl ?_
    show wp (B__law_any_frame [some (.sh (.obj 0)), some (.sh (schE dl hs)), none, none, none, none, none] g) _
    obtain ⟨names, hn⟩ : ∃ names, names = hs.map (·.1) := ⟨_, rfl⟩
    have hnn : names ≠ [] := by rw [hn]; simpa using hh.ne
    have hnz : names.length ≤ 4 := by rw [hn, List.length_map]; exact hh.few
    have c0 : C__law_any_frame_0 [some (.sh (.obj 0)), some (.sh (.tup [.tup (dl.map dialE), .tup (hs.map headE)])), none, none, none, none, none] g = some (.ow (.lst (hs.map fun p => D.str p.1)), [some (.sh (.obj 0)), some (.sh (.tup [.tup (dl.map dialE), .tup (hs.map headE)])), none, none, none, none, none], g) := by
      unfold C__law_any_frame_0
      exact lc_all hs headE (fun p => D.str p.1) (cells := [.sh (.tup (hs.map headE))]) (by simp) rfl fun p hp => ⟨_, by show asg _ (.tup [.str p.1, .tup (p.2.map D.str)]) _ = _; simp; rfl, rfl, by simp⟩
    have hnt : (hs.map fun p => D.str p.1) = tx names := by rw [hn, tx, List.map_map]; rfl
    rw [hnt] at c0
    obtain ⟨r, g1, e1, r0, r1, ok1⟩ := next_ok (m := 6) (n := n + 6) ok (by decide) (by decide)
    have rr : okR (1 + r) = true := okR_of (by omega) (by omega)
    unfold schE
    simp (dsimp := false) [B__law_any_frame, c0, e1]
    repeat refine wp_thn ?_
    unfold C__law_any_frame_1
    refine lc_wp (fun i acc g => ∃ l : List Str, acc = tx l ∧ l.length = i ∧ (∀ x ∈ l, x ∈ names) ∧ (i ≤ 6 → Ok (n + (6 - i)) g)) (items := rangeD 0 (1 + r).toNat) (cells := []) (by simp (dsimp := false) [rr]) rfl ⟨[], rfl, rfl, fun _ h => (nomatch h), fun _ => ok1⟩ (fun i d acc g hi ⟨l, h1, h2, h3, h4⟩ => ?_) fun acc g ⟨l, h1, h2, h3, h4⟩ => ?_
    · have hil : i < (1 + r).toNat := by have := (List.getElem?_eq_some_iff.mp hi).1; rwa [rangeD_len] at this
      obtain ⟨xd, g2, e2, hx, ok2⟩ := one_lst (n := n + (6 - (i + 1))) (g := g) (ds := tx names) ((h4 (by omega)).mono (by omega)) (by simpa using hnn) (by simp; omega)
      obtain ⟨x, hxm, rfl⟩ := List.mem_map.mp hx
      refine ⟨_, by simp; rfl, ?_⟩
      simp only [tx] at e2 ⊢
      simp (dsimp := false) [e2]
      refine ⟨l ++ [x], by simp [h1, tx], by simp [h2], fun y hy => ?_, fun _ => ok2.mono (by omega)⟩
      rcases List.mem_append.mp hy with h | h
      · exact h3 y h
      · simp at h; subst h; exact hxm
    · subst h1
      rw [rangeD_len] at h2 h4
      have os := opSS2_lx (l := l) (by omega)
      have hl := ssT_len l
      have hz : (ssT l).length ≤ sizeLine := le_sz (by omega)
      simp only [tx] at os ⊢
      simp (dsimp := false) [os, hz, -wp_thn]
      refine ⟨ssT l, rfl, Frame.of hh (ssT_ne fun e => ?_) (ssT_asc _) fun x hx => ?_, (h4 (by omega)).mono (by omega)⟩
      · subst e; simp at h2; omega
      · rw [← hn]; exact h3 x (ssT_mem.mp hx)
  obtain ⟨d, g', e, fr, rfl, h1, h2⟩ := this
  exact ⟨fr, g', e, h1, h2⟩
/-! ### plans may be shown -/
theorem name_head (hh : Heads dl hs) {t : Str} (h : t ∈ hs.map (·.1)) : t ∈ headNames := by
  obtain ⟨q, hq, rfl⟩ := List.mem_map.mp h
  exact hh.name q hq
theorem frame_fi {fr : List Str} (hh : Heads dl hs) (h : Frame hs fr) : Fi 300 1 (.tup (tx fr)) := fi_tx (L := 4) (fun x hx => headNames_ok _ (name_head hh (h.sub x hx))) (h.len hh) (by decide)
end
end DL
namespace DL
open PySem PySem.Spec PyProof.Rows L2
/-! ### equal tuples of texts -/
section
variable {dl : List (Str × Str)} {hs : List (Str × List Str)} {g : Dk}
/-! ### what a plan is -/
def isAll (w : Str) : Bool := decide (w = "all")
def isThin (w : Str) : Bool := decide (w = "thin")
def isTwo (w : Str) : Bool := decide (w ∈ (["join", "either", "meet"] : List Str))
def isJoin (w : Str) : Bool := decide (w = "join")
def lookAll (hs : List (Str × List Str)) : D → Option (List Str × Nat)
  | .str t => if t ∈ hs.map (·.1) then some ([t], 1) else none
  | _ => none
def colB (hs : List (Str × List Str)) (fr : List Str) : D → Bool
  | .str s => decide (s ∈ colsL hs fr)
  | _ => false
def lookThin (hs : List (Str × List Str)) (c q : D) : Option (List Str × Nat) → Option (List Str × Nat)
  | some (fr, k) => if (colB hs fr c && rateB 1 1000 q) = true then some (fr, k + 1) else none
  | none => none
def lookTwo (w : Str) (a : List Str × Nat) : Option (List Str × Nat) → Option (List Str × Nat)
  | some b => if (isJoin w || decide (a.1 = b.1)) = true then some (ssT (a.1 ++ b.1), 1 + a.2 + b.2) else none
  | none => none
def lookT2 (w : Str) (o : Option (List Str × Nat)) (f : Nat → Option (List Str × Nat)) : Option (List Str × Nat) := match o with
  | some a => lookTwo w a (f a.2)
  | none => none
def look (hs : List (Str × List Str)) : Nat → D → Option (List Str × Nat)
  | r + 1, .tup [.str w, x] => if isAll w = true then lookAll hs x else none
  | r + 1, .tup [.str w, p, c, q] => if isThin w = true then lookThin hs c q (look hs r p) else none
  | r + 1, .tup [.str w, p, q] => if isTwo w = true then lookT2 w (look hs r p) (fun j => look hs (r - j) q) else none
  | _, _ => none
termination_by r => r
end
end DL
namespace DL
open PySem PySem.Spec PyProof.Rows L2
end DL
namespace DL
open PySem PySem.Spec PyProof.Rows L2
end DL
namespace DL
open PySem PySem.Spec PyProof.Rows L2
end DL
namespace DL
open PySem PySem.Spec PyProof.Rows L2
/-! ### runs: d.get, t.index, two generators -/
section
variable {G : Type} {st : Sl} {g : G} {a b c : M G S} {s t : S} {d e : D}
def kGet4 (dd dx : D) (st : Sl) (g : G) : Option D → Option (S × Sl × G)
  | some dk => kRes (getK dd dx dk) st g
  | none => none
@[simp] theorem kGet4_some {dd dx : D} : kGet4 dd dx st g (some e) = kRes (getK dd dx e) st g := nr rfl
def kGet3 (k : S) (dd : D) (st : Sl) (g : G) : Option D → Option (S × Sl × G)
  | some dx => kGet4 dd dx st g (peek k st)
  | none => none
@[simp] theorem kGet3_some {dd : D} : kGet3 s dd st g (some e) = kGet4 dd e st g (peek s st) := nr rfl
def kGet2 (x k : S) (dd : D) (st : Sl) (g : G) : Option (S × Sl × G) := kGet3 k dd st g (peek x st)
@[simp] theorem kGet2_eq {dd : D} : kGet2 s t dd st g = kGet3 t dd st g (peek s st) := nr rfl
def kGet1 (x : S) (fd : M G S) (k : S) (st : Sl) (g : G) : Option (S × Sl × G) := thn (mTake fd st g) (kGet2 x k) .u
@[simp] theorem kGet1_eq : kGet1 s a t st g = thn (mTake a st g) (kGet2 s t) .u := nr rfl
def kGet0 (x : S) (fk fd : M G S) (st : Sl) (g : G) : Option D → Option (S × Sl × G)
  | some (.dct _) => thn (fk st g) (kGet1 x fd) .u
  | _ => none
@[simp] theorem kGet0_dct {kvs : List (D × D)} : kGet0 s a b st g (some (.dct kvs)) = thn (a st g) (kGet1 s b) .u := nr rfl
def kGet (fk fd : M G S) (x : S) (st : Sl) (g : G) : Option (S × Sl × G) := kGet0 x fk fd st g (peek x st)
@[simp] theorem kGet_eq : kGet a b s st g = kGet0 s a b st g (peek s st) := nr rfl
@[simp] theorem r_get2 : mGet2 a b c st g = thn (a st g) (kGet b c) .u := nr (by
  unfold mGet2 thn kGet; congr 1; funext x st g
  cases peek x st with
  | none => rfl
  | some d0 =>
    cases d0 with
    | dct kvs =>
      show bnd (b st g) _ = thn (b st g) (kGet1 x c) .u
      unfold thn kGet1; congr 1; funext k st g
      unfold thn; congr 1; funext dd st g
      unfold kGet2 kGet3 kGet4 kRes
      cases peek x st with
      | none => rfl
      | some dx => cases peek k st <;> rfl
    | _ => rfl)
@[simp] theorem getK_str {dd : D} {kvs : List (D × D)} {k : Str} : getK dd (.dct kvs) (.str k) = some (.sh ((dlook kvs (.str k)).getD dd)) := nr rfl
@[simp] theorem getK_int {dd : D} {kvs : List (D × D)} {k : Int} : getK dd (.dct kvs) (.int k) = some (.sh ((dlook kvs (.int k)).getD dd)) := nr rfl
end
section
variable {G : Type} {st : Sl} {g : G} {a b : M G S} {s t : S} {d e : D}
def kIdx3 (dx : D) (st : Sl) (g : G) : Option D → Option (S × Sl × G)
  | some dk => kRes (opIdx dx dk) st g
  | none => none
@[simp] theorem kIdx3_some : kIdx3 d st g (some e) = kRes (opIdx d e) st g := nr rfl
def kIdx2 (k : S) (st : Sl) (g : G) : Option D → Option (S × Sl × G)
  | some dx => kIdx3 dx st g (peek k st)
  | none => none
@[simp] theorem kIdx2_some : kIdx2 s st g (some e) = kIdx3 e st g (peek s st) := nr rfl
def kIdx1 (x k : S) (st : Sl) (g : G) : Option (S × Sl × G) := kIdx2 k st g (peek x st)
@[simp] theorem kIdx1_eq : kIdx1 s t st g = kIdx2 t st g (peek s st) := nr rfl
def kIdx0 (x : S) (fk : M G S) (st : Sl) (g : G) : Option D → Option (S × Sl × G)
  | some (.tup _) => thn (fk st g) (kIdx1 x) .u
  | _ => none
@[simp] theorem kIdx0_tup {ds : List D} : kIdx0 s a st g (some (.tup ds)) = thn (a st g) (kIdx1 s) .u := nr rfl
def kIdx (fk : M G S) (x : S) (st : Sl) (g : G) : Option (S × Sl × G) := kIdx0 x fk st g (peek x st)
@[simp] theorem kIdx_eq : kIdx a s st g = kIdx0 s a st g (peek s st) := nr rfl
@[simp] theorem r_idx : mIdx a b st g = thn (a st g) (kIdx b) .u := nr (by
  unfold mIdx thn kIdx; congr 1; funext x st g
  cases peek x st with
  | none => rfl
  | some d0 =>
    cases d0 with
    | tup ds =>
      show bnd (b st g) _ = thn (b st g) (kIdx1 x) .u
      unfold thn; congr 1; funext k st g
      unfold kIdx1 kIdx2 kIdx3 kRes
      cases peek x st with
      | none => rfl
      | some dx => cases peek k st <;> rfl
    | _ => rfl)
end
/-! ### two generators, no draws -/
end DL
namespace DL
open PySem PySem.Spec PyProof.Rows L2
/-! ### runs: comprehensions over dicts, sorted(d.items()) -/
end DL
namespace DL
open PySem PySem.Spec PyProof.Rows L2
/-! ### rates as numbers (plain) -/
abbrev Rt := Nat × Nat
def rBelow (a b : Rt) : Prop := a.1 * b.2 < b.1 * a.2
instance (a b : Rt) : Decidable (rBelow a b) := inferInstanceAs (Decidable (a.1 * b.2 < b.1 * a.2))
def one : Rt := (1, 1)
end DL
namespace DL
open PySem PySem.Spec PyProof.Rows L2
/-! ### ways (plain) -/
abbrev Way := List (Str × Rt)
structure WayOk (w : Way) : Prop where
  asc : Asc (tx (w.map (·.1)))
  rate : ∀ p ∈ w, Rate p.2 ∧ p.2 ≠ one
def wval (w : Way) (c : Str) : Rt := ((w.find? fun p => decide (p.1 = c)).map (·.2)).getD one
theorem wval_mem {w : Way} (hn : (w.map (·.1)).Nodup) {p : Str × Rt} (h : p ∈ w) : wval w p.1 = p.2 := by
  induction w with
  | nil => cases h
  | cons q w ih =>
    rw [List.map_cons, List.nodup_cons] at hn
    unfold wval
    rw [List.find?_cons]
    by_cases e : q.1 = p.1
    · simp only [e, decide_true]
      rcases List.mem_cons.mp h with r | r
      · rw [r]; rfl
      · exact absurd (e ▸ List.mem_map_of_mem (f := fun x : Str × Rt => x.1) r) hn.1
    · simp only [e, decide_false]
      rcases List.mem_cons.mp h with r | r
      · exact absurd (by rw [r]) e
      · exact ih hn.2 r
theorem wval_not {w : Way} {c : Str} (h : c ∉ w.map (·.1)) : wval w c = one := by
  unfold wval
  have : (w.find? fun p => decide (p.1 = c)) = none := List.find?_eq_none.mpr fun p hp => by
    simp only [decide_eq_true_eq]
    exact fun e => h (e ▸ List.mem_map_of_mem (f := fun x : Str × Rt => x.1) hp)
  rw [this]; rfl
theorem WayOk.nd {w : Way} (h : WayOk w) : (w.map (·.1)).Nodup := asc_nodup h.asc
theorem WayOk.mem_iff {w : Way} (h : WayOk w) {c : Str} : c ∈ w.map (·.1) ↔ wval w c ≠ one := by
  constructor
  · intro hc
    obtain ⟨p, hp, rfl⟩ := List.mem_map.mp hc
    rw [wval_mem h.nd hp]
    exact (h.rate p hp).2
  · intro hc
    cases Classical.em (c ∈ w.map (·.1)) with
    | inl h => exact h
    | inr h => exact absurd (wval_not h) hc
end DL
namespace DL
open PySem PySem.Spec PyProof.Rows L2
/-! ### the widest of some ways (plain) -/
end DL
namespace DL
open PySem PySem.Spec PyProof.Rows L2
/-! ### ways as data, and sets of them -/
def pairE (p : Str × Rt) : D := .tup [.str p.1, rateE p.2]
def wayE (w : Way) : D := .tup (w.map pairE)
theorem nk_pair (p : Str × Rt) : nkD (pairE p) = some (.tup [.text p.1, .tup [.num p.2.1, .num p.2.2]]) := by
  simp [pairE, rateE, nkD, nksD]
theorem nk_pairs : ∀ w : Way, nksD (w.map pairE) = some (w.map fun p => NestedKey.tup [.text p.1, .tup [.num p.2.1, .num p.2.2]])
  | [] => rfl
  | p :: w => by simp only [List.map_cons, nksD, nk_pair, nk_pairs w]
theorem nkDepth_pairs : ∀ w : Way, NestedKey.depthAll (w.map fun p => NestedKey.tup [.text p.1, .tup [.num p.2.1, .num p.2.2]]) ≤ 2 := by
  intro w
  induction w with
  | nil => simp [NestedKey.depthAll]
  | cons p w ih => simp [NestedKey.depthAll, NestedKey.depth]; omega
theorem alike_pairs : ∀ a b : Way, PySem.W.alikeAll (D.pys (a.map pairE)) (D.pys (b.map pairE)) = true
  | [], _ => by simp [D.pys, PySem.W.alikeAll]
  | _ :: _, [] => by simp [D.pys, PySem.W.alikeAll]
  | p :: a, q :: b => by
    have := alike_pairs a b
    simp only [List.map_cons, D.pys, PySem.W.alikeAll, this, Bool.and_true]
    simp [pairE, rateE, D.py, D.pys, PySem.W.alike, PySem.W.alikeAll]
theorem alike_ways (a b : Way) : PySem.W.alike (wayE a).py (wayE b).py = true := by
  simp only [wayE, D.py, PySem.W.alike, alike_pairs]
theorem okSN_ways (l : List Way) (h : l.length < 64) : okSN (l.map wayE) = true := by
  simp only [okSN, Bool.and_eq_true, List.all_eq_true, decide_eq_true_eq, List.length_map]
  refine ⟨⟨fun d hd => ?_, fun a ha b hb => ?_⟩, h⟩
  · obtain ⟨r, _, rfl⟩ := List.mem_map.mp hd
    have := nkDepth_pairs r
    have e : nkD (wayE r) = some (.tup (r.map fun p => NestedKey.tup [.text p.1, .tup [.num p.2.1, .num p.2.2]])) := by simp only [wayE, nkD, nk_pairs, Option.map_some]
    rw [e]
    refine decide_eq_true (p := NestedKey.depth (.tup (r.map fun p => NestedKey.tup [.text p.1, .tup [.num p.2.1, .num p.2.2]])) ≤ 8) ?_
    simp only [NestedKey.depth]
    omega
  · obtain ⟨r, _, rfl⟩ := List.mem_map.mp ha
    obtain ⟨q, _, rfl⟩ := List.mem_map.mp hb
    exact alike_ways r q
theorem injT_ways (l : List Way) : InjT (l.map wayE) := fun a ha b hb h1 h2 => by
  obtain ⟨r, _, rfl⟩ := List.mem_map.mp ha
  obtain ⟨q, _, rfl⟩ := List.mem_map.mp hb
  obtain ⟨ks, sn⟩ := okSN_keys (okSN_ways [r, q] (by simp))
  exact sn.inj _ (by simp) _ (by simp) h1 h2
def unPair : D → Str × Rt
  | .tup [.str c, .tup [.int a, .int b]] => (c, (a.toNat, b.toNat))
  | _ => ("", one)
def unWay : D → Way
  | .tup l => l.map unPair
  | _ => []
theorem unWay_wayE (w : Way) : unWay (wayE w) = w := by
  simp only [unWay, wayE, List.map_map]
  refine (List.map_congr_left fun p _ => ?_).trans (List.map_id w)
  simp [unPair, pairE, rateE]
theorem wayE_inj {a b : Way} (h : wayE a = wayE b) : a = b := by rw [← unWay_wayE a, h, unWay_wayE]
def ssW (l : List Way) : List Way := (ssD (l.map wayE)).map unWay
theorem ssW_eq (l : List Way) : ssD (l.map wayE) = (ssW l).map wayE := by
  unfold ssW
  rw [List.map_map]
  refine ((List.map_id _).symm.trans (List.map_congr_left fun d hd => ?_))
  obtain ⟨r, _, rfl⟩ := List.mem_map.mp (ssD_sub hd)
  simp only [Function.comp, unWay_wayE, id]
theorem ssW_mem {l : List Way} {x : Way} : x ∈ ssW l ↔ x ∈ l := by
  have h : wayE x ∈ ssD (l.map wayE) ↔ wayE x ∈ l.map wayE := ssD_mem (injT_ways l)
  rw [ssW_eq] at h
  simp only [List.mem_map] at h
  constructor
  · intro hx
    obtain ⟨y, hy, e⟩ := h.mp ⟨x, hx, rfl⟩
    exact wayE_inj e ▸ hy
  · intro hx
    obtain ⟨y, hy, e⟩ := h.mpr ⟨x, hx, rfl⟩
    exact wayE_inj e ▸ hy
end DL
namespace DL
open PySem PySem.Spec PyProof.Rows L2
/-! ### rates and ways, by the program -/
def withinB (a b : Way) : Bool := b.all fun p => decide (p.1 ∈ a.map (·.1)) && !decide (rBelow p.2 (wval a p.1))
def topB (ws : List Way) (w : Way) : Bool := !(ws.any fun o => !decide (w = o) && withinB w o)
def widB (ws : List Way) : List Way := (ssW ws).filter (topB (ssW ws))
end DL
namespace DL
open PySem PySem.Spec PyProof.Rows L2
/-! ### two ways together (plain) -/
def aput {α : Type} (kvs : List (Str × α)) (k : Str) (v : α) : List (Str × α) := if (kvs.any fun p => decide (p.1 = k)) = true then kvs.map (fun p => if p.1 = k then (p.1, v) else p) else kvs ++ [(k, v)]
def avE {α : Type} (enc : α → D) (kvs : List (Str × α)) : List (Str × D) := kvs.map fun p => (p.1, enc p.2)
theorem avE_keys {α : Type} (enc : α → D) (kvs : List (Str × α)) : (avE enc kvs).map (·.1) = kvs.map (·.1) := by simp [avE]
theorem aput_eq {α : Type} (enc : α → D) (kvs : List (Str × α)) (k : Str) (v : α) : tput (avE enc kvs) k (enc v) = avE enc (aput kvs k v) := by
  unfold tput aput avE
  have e : (List.any (List.map (fun p : Str × α => (p.1, enc p.2)) kvs) fun p => decide (p.1 = k)) = kvs.any fun p => decide (p.1 = k) := by rw [List.any_map]; rfl
  rw [e]
  split
  · rw [List.map_map, List.map_map]
    refine List.map_congr_left fun p _ => ?_
    simp only [Function.comp]
    split <;> rfl
  · simp
theorem aput_keys {α : Type} (kvs : List (Str × α)) (k : Str) (v : α) (x : Str) : x ∈ (aput kvs k v).map (·.1) ↔ x = k ∨ x ∈ kvs.map (·.1) := by
  have := tput_keys (avE (fun _ => D.non) kvs) k D.non x
  rw [show tput (avE (fun _ : α => D.non) kvs) k D.non = avE (fun _ => D.non) (aput kvs k v) from aput_eq (fun _ => D.non) kvs k v, avE_keys, avE_keys] at this
  exact this
theorem aput_nodup {α : Type} {kvs : List (Str × α)} (h : (kvs.map (·.1)).Nodup) (k : Str) (v : α) : ((aput kvs k v).map (·.1)).Nodup := by
  have := tput_nodup (kvs := avE (fun _ => D.non) kvs) (by rw [avE_keys]; exact h) k D.non
  rw [show tput (avE (fun _ : α => D.non) kvs) k D.non = avE (fun _ => D.non) (aput kvs k v) from aput_eq (fun _ => D.non) kvs k v, avE_keys] at this
  exact this
theorem aput_len {α : Type} (kvs : List (Str × α)) (k : Str) (v : α) : (aput kvs k v).length ≤ kvs.length + 1 := by
  unfold aput; split <;> simp
theorem aput_mem {α : Type} {kvs : List (Str × α)} {k : Str} {v : α} {p : Str × α} (h : p ∈ aput kvs k v) : p ∈ kvs ∨ p = (k, v) := by
  unfold aput at h
  split at h
  · obtain ⟨q, hq, e⟩ := List.mem_map.mp h
    split at e
    · rename_i hk; right; rw [← e, hk]
    · left; rw [← e]; exact hq
  · rcases List.mem_append.mp h with h | h
    · exact .inl h
    · exact .inr (List.mem_singleton.mp h)
/-- what stands at a key -/
def aget {α : Type} (kvs : List (Str × α)) (k : Str) : Option α := (kvs.find? fun p => decide (p.1 = k)).map (·.2)
theorem aget_put {α : Type} (kvs : List (Str × α)) (k : Str) (v : α) (x : Str) : aget (aput kvs k v) x = if x = k then some v else aget kvs x := by
  unfold aget aput
  by_cases ha : (kvs.any fun p => decide (p.1 = k)) = true
  · rw [if_pos ha]
    by_cases hx : x = k
    · subst hx
      rw [if_pos rfl]
      induction kvs with
      | nil => simp at ha
      | cons q kvs ih =>
        rw [List.map_cons, List.find?_cons]
        by_cases e : q.1 = x
        · simp [e]
        · simp only [e, if_false, decide_false]
          simp only [List.any_cons, e, decide_false, Bool.false_or] at ha
          exact ih ha
    · rw [if_neg hx]
      clear ha
      induction kvs with
      | nil => rfl
      | cons q kvs ih =>
        rw [List.map_cons, List.find?_cons, List.find?_cons]
        by_cases e : q.1 = k
        · have e2 : ¬ q.1 = x := fun e' => hx (e'.symm.trans e)
          have e3 : ¬ k = x := fun e' => hx e'.symm
          simp only [e, if_true, e3, decide_false]
          exact ih
        · by_cases e2 : q.1 = x
          · simp [e, e2, hx]
          · simp only [e, if_false, e2, decide_false]
            exact ih
  · rw [if_neg ha, List.find?_append]
    by_cases hx : x = k
    · subst hx
      have : (kvs.find? fun p => decide (p.1 = x)) = none := List.find?_eq_none.mpr fun p hp => by
        simp only [List.any_eq_true, not_exists, not_and] at ha
        exact ha p hp
      simp [this]
    · have : decide (k = x) = false := decide_eq_false fun e => hx e.symm
      simp [hx, this]
theorem Rate.pos {r : Rt} (h : Rate r) : 0 < r.2 := Nat.lt_of_lt_of_le h.one h.le
/-! ### rules put together (plain) -/
def oneR (a b : List Way) : List Way := widB (a ++ b)
/-! ### the laws of sets -/
end DL
namespace DL
open PySem PySem.Spec PyProof.Rows L2
/-! ### runs: d[k] = v; loops that draw nothing -/
section
variable {G : Type} {st : Sl} {g : G} {a b c : M G S} {s t : S} {d e : D} {i : Nat}
def kDp5 (i : Nat) (dk dv : D) (kvs : List (D × D)) (st : Sl) (g : G) : Option (Fl × Sl × G) := if kvs.length < sizeLine then some (.nx, st.set i (some (.ow (.dct (dput kvs dk dv)))), g) else none
@[simp] theorem kDp5_eq {dk dv : D} {kvs : List (D × D)} (h : kvs.length < sizeLine) : kDp5 i dk dv kvs st g = some (.nx, st.set i (some (.ow (.dct (dput kvs dk dv)))), g) := nr (by unfold kDp5; rw [if_pos h])
def kDp4 (i : Nat) (dk dv : D) (st : Sl) (g : G) : Option (Option S) → Option (Fl × Sl × G)
  | some (some (.ow (.dct kvs))) => if (keyD dk).isSome = true then kDp5 i dk dv kvs st g else none
  | _ => none
@[simp] theorem kDp4_str {dv : D} {k : Str} {kvs : List (D × D)} : kDp4 i (.str k) dv st g (some (some (.ow (.dct kvs)))) = kDp5 i (.str k) dv kvs st g := nr rfl
@[simp] theorem kDp4_int {dv : D} {k : Int} {kvs : List (D × D)} : kDp4 i (.int k) dv st g (some (some (.ow (.dct kvs)))) = kDp5 i (.int k) dv kvs st g := nr rfl
def kDp3 (i : Nat) (dv : D) (st : Sl) (g : G) : Option D → Option (Fl × Sl × G)
  | some dk => kDp4 i dk dv st g st[i]?
  | none => none
@[simp] theorem kDp3_some {dv : D} : kDp3 i dv st g (some d) = kDp4 i d dv st g st[i]? := nr rfl
def kDp2 (i : Nat) (dv : D) (k : S) (st : Sl) (g : G) : Option (Fl × Sl × G) := kDp3 i dv st g (peek k st)
@[simp] theorem kDp2_eq {dv : D} : kDp2 i dv s st g = kDp3 i dv st g (peek s st) := nr rfl
def kDp1 (i : Nat) (fk : M G S) (dv : D) (_ : S) (st : Sl) (g : G) : Option (Fl × Sl × G) := thn (fk st g) (kDp2 i dv) .u
@[simp] theorem kDp1_eq {dv : D} : kDp1 i a dv s st g = thn (a st g) (kDp2 i dv) .u := nr rfl
def kDp0 (i : Nat) (fk : M G S) (dv : D) (st : Sl) (g : G) : Option (Fl × Sl × G) := thn (mAt i st g) (kDp1 i fk dv) .u
@[simp] theorem kDp0_eq {dv : D} : kDp0 i a dv st g = thn (mAt i st g) (kDp1 i a dv) .u := nr rfl
@[simp] theorem r_dput : mDPut i a b st g = thn (mTake b st g) (kDp0 i a) .u := nr (by
  unfold mDPut thn kDp0; congr 1; funext dv st g
  unfold thn kDp1; congr 1; funext x st g
  unfold thn kDp2; congr 1; funext k st g
  cases peek k st with
  | none => rfl
  | some dk =>
    show (match st[i]?, keyD dk with
      | some (some (.ow (.dct kvs))), some _ => if kvs.length < sizeLine then some (.nx, st.set i (some (.ow (.dct (dput kvs dk dv)))), g) else none
      | _, _ => none) = kDp4 i dk dv st g st[i]?
    generalize st[i]? = o
    exact match o with
      | none => rfl
      | some none => rfl
      | some (some (.sh _)) => rfl
      | some (some (.at _)) => rfl
      | some (some .any) => rfl
      | some (some (.ow (.dct kvs))) => by
        show _ = if (keyD dk).isSome = true then kDp5 i dk dv kvs st g else none
        cases keyD dk <;> rfl
      | some (some (.ow .non)) => rfl
      | some (some (.ow (.bl _))) => rfl
      | some (some (.ow (.int _))) => rfl
      | some (some (.ow (.str _))) => rfl
      | some (some (.ow (.tup _))) => rfl
      | some (some (.ow (.lst _))) => rfl
      | some (some (.ow (.obj _))) => rfl
      | some (some (.ow (.dcn _))) => rfl)
def kAt (i : Nat) (st : Sl) (g : G) : Option (Option S) → Option (S × Sl × G)
  | some (some (.ow _)) => some (.at i, st, g)
  | _ => none
@[simp] theorem kAt_ow : kAt i st g (some (some (.ow d))) = some (.at i, st, g) := nr rfl
@[simp] theorem r_at : (mAt i : M G S) st g = kAt i st g st[i]? := nr (by
  unfold mAt kAt
  generalize st[i]? = o
  exact match o with
    | none => rfl
    | some none => rfl
    | some (some s) => by cases s <;> rfl)
end
/-! ### dicts by texts -/
theorem dlook_av {α : Type} (enc : α → D) (kvs : List (Str × α)) (c : Str) : dlook (kvE (avE enc kvs)) (.str c) = (aget kvs c).map enc := by
  unfold dlook aget kvE avE
  induction kvs with
  | nil => rfl
  | cons q kvs ih =>
    simp only [List.map_cons, List.find?_cons, kEq_str]
    by_cases e : q.1 = c
    · simp [e]
    · simp only [e, decide_false]
      exact ih
/-! ### pairs in order -/
theorem ltD_irrefl (d : D) : ltD d d = false := lex_irrefl _
/-! ### together -/
end DL
namespace DL
open PySem PySem.Spec PyProof.Rows L2
/-! ### columns of ways -/
def AllIn (cs : List Str) (ws : List Way) : Prop := ∀ w ∈ ws, ∀ c ∈ w.map (·.1), c ∈ cs
theorem AllIn.mono {cs ds : List Str} {ws : List Way} (h : AllIn cs ws) (hs : ∀ c ∈ cs, c ∈ ds) : AllIn ds ws := fun w hw c hc => hs c (h w hw c hc)
theorem widB_sub {ws : List Way} {w : Way} (h : w ∈ widB ws) : w ∈ ws := ssW_mem.mp (List.mem_filter.mp h).1
theorem AllIn.wid {cs : List Str} {a : List Way} (ha : AllIn cs a) : AllIn cs (widB a) := fun w hw => ha w (widB_sub hw)
theorem AllIn.app {cs : List Str} {a b : List Way} (ha : AllIn cs a) (hb : AllIn cs b) : AllIn cs (a ++ b) := fun w hw => (List.mem_append.mp hw).elim (ha w) (hb w)
theorem AllIn.one {cs : List Str} {a b : List Way} (ha : AllIn cs a) (hb : AllIn cs b) : AllIn cs (oneR a b) := (ha.app hb).wid
/-! ### rules put together, by the program -/
def ruleE (r : List Way) : D := .tup (r.map wayE)
/-! ### the rule of a plan -/
end DL
namespace DL
open PySem PySem.Spec PyProof.Rows L2
/-! ### ways and rules, by the law -/
/-- a way, as a dict -/
structure DWay (w : Way) : Prop where
  nd : (w.map (·.1)).Nodup
  rate : ∀ p ∈ w, Rate p.2 ∧ p.2 ≠ one
theorem WayOk.dw {w : Way} (h : WayOk w) : DWay w := ⟨h.nd, h.rate⟩
end DL
namespace DL
open PySem PySem.Spec PyProof.Rows L2
/-- a way that is being drawn -/
structure Dr (cols : List Str) (w : Way) : Prop where
  dw : DWay w
  sub : ∀ c ∈ w.map (·.1), c ∈ cols
theorem Dr.nil {cols : List Str} : Dr cols [] := ⟨⟨List.Pairwise.nil, fun _ h => nomatch h⟩, fun _ h => nomatch h⟩
theorem Dr.put {cols : List Str} {w : Way} (h : Dr cols w) {c : Str} {r : Rt} (hc : c ∈ cols) (hr : Rate r) (h1 : r ≠ one) : Dr cols (aput w c r) where
  dw := ⟨aput_nodup h.dw.nd _ _, fun p hp => by
    rcases aput_mem hp with h' | h'
    · exact h.dw.rate p h'
    · rw [h']; exact ⟨hr, h1⟩⟩
  sub x hx := by
    rcases (aput_keys w c r x).mp hx with e | h'
    · rw [e]; exact hc
    · exact h.sub x h'
end DL
namespace DL
open PySem PySem.Spec PyProof.Rows L2
section
variable {G : Type} {st : Sl} {g : G} {a : M G S} {ps : List Pt} {ds : List D}
def kUnpL (ps : List Pt) (d : D) (st : Sl) (g : G) : Option (Fl × Sl × G) := match d with
  | .lst ds => kUnp1 g (asgs ps ds st)
  | _ => none
@[simp] theorem kUnpL_eq : kUnpL ps (.lst ds) st g = kUnp1 g (asgs ps ds st) := nr rfl
@[simp] theorem r_unpL : mUnpL ps a st g = thn (mTake a st g) (kUnpL ps) .u := nr (by
  unfold mUnpL thn; congr 1; funext d st g
  cases d with
  | lst ds => show Option.map _ (asgs ps ds st) = kUnp1 g (asgs ps ds st); cases asgs ps ds st <;> rfl
  | _ => rfl)
end
/-! ### rules may be shown -/
end DL
namespace DL
open PySem PySem.Spec PyProof.Rows L2
/-! ### runs -/
@[simp] theorem opDict_dct {kvs : List (D × D)} : opDict (.dct kvs) = some (.ow (.dct kvs)) := nr rfl
theorem nodup_few {a L : List Str} (ha : a.Nodup) (h : ∀ x ∈ a, x ∈ L) : a.length ≤ L.length := by
  have h1 := asc_few (ssT_asc a) (L := L) fun x hx => h x (ssT_mem.mp hx)
  have e : (ssT a).length = a.length := by
    have := congrArg List.length (msD_tx ha)
    rw [msD_len] at this
    simpa using this.symm
  omega
/-! ### two ways met, as dicts -/
/-- ways as dicts, of few columns -/
def DWs (cs : List Str) (l : List Way) : Prop := ∀ w ∈ l, DWay w ∧ ∀ c ∈ w.map (·.1), c ∈ cs
theorem DWs.len {cs : List Str} {l : List Way} (h : DWs cs l) {w : Way} (hw : w ∈ l) : w.length ≤ cs.length := by
  have := nodup_few (h w hw).1.nd (h w hw).2
  rwa [List.length_map] at this
end DL
namespace DL
open PySem PySem.Spec PyProof.Rows L2
/-! ### the ways of a plan, by the law -/
theorem DWs.mono {cs ds : List Str} {l : List Way} (h : DWs cs l) (hs : ∀ c ∈ cs, c ∈ ds) : DWs ds l := fun w hw => ⟨(h w hw).1, fun c hc => hs c ((h w hw).2 c hc)⟩
/-! ### by the law's code -/
end DL
namespace DL
open PySem PySem.Spec PyProof.Rows L2
end DL
namespace DL
open PySem PySem.Spec PyProof.Rows L2
/-! ### a plan with a rule (plain) -/
end DL
namespace DL
open PySem PySem.Spec PyProof.Rows L2
/-! ### what is a way, of any value -/
def isOneD : D → Bool
  | .tup [.int a, .int b] => decide (a = 1) && decide (b = 1)
  | _ => false
def pairW (cs : List Str) : D → Bool
  | .tup [.str c, r] => decide (c ∈ cs) && (rateB 1 1000 r && !isOneD r)
  | _ => false
theorem rateB_of {d : D} (h : rateB 1 1000 d = true) : ∃ r, d = rateE r ∧ Rate r := by
  unfold rateB at h
  split at h
  · rename_i a b
    simp only [Bool.and_eq_true, decide_eq_true_eq] at h
    obtain ⟨⟨⟨h1, h2⟩, h3, h4⟩, h5⟩ := h
    obtain ⟨x, rfl⟩ := Int.eq_ofNat_of_zero_le (show 0 ≤ a by omega)
    obtain ⟨y, rfl⟩ := Int.eq_ofNat_of_zero_le (show 0 ≤ b by omega)
    exact ⟨(x, y), rfl, by show 1 ≤ x; omega, by show x ≤ y; omega, by show y ≤ 1000; omega, by simpa using h5⟩
  · cases h
theorem isOne_rate (r : Rt) : isOneD (rateE r) = decide (r = one) := by
  obtain ⟨a, b⟩ := r
  simp only [rateE, isOneD, one, Prod.mk.injEq]
  have e1 : decide ((a : Int) = 1) = decide (a = 1) := by congr 1; simp; omega
  have e2 : decide ((b : Int) = 1) = decide (b = 1) := by congr 1; simp; omega
  rw [e1, e2]
  by_cases h1 : a = 1 <;> by_cases h2 : b = 1 <;> simp [h1, h2]
theorem pairW_of {cs : List Str} {d : D} (h : pairW cs d = true) : ∃ p : Str × Rt, d = pairE p ∧ p.1 ∈ cs ∧ Rate p.2 ∧ p.2 ≠ one := by
  unfold pairW at h
  split at h
  · rename_i c r
    simp only [Bool.and_eq_true, decide_eq_true_eq] at h
    obtain ⟨h1, h2, h3⟩ := h
    obtain ⟨x, rfl, hx⟩ := rateB_of h2
    rw [isOne_rate] at h3
    exact ⟨(c, x), rfl, h1, hx, by simpa using h3⟩
  · cases h
theorem pairs_of {cs : List Str} : ∀ {l : List D}, l.all (pairW cs) = true → ∃ w : Way, l = w.map pairE ∧ ∀ p ∈ w, p.1 ∈ cs ∧ Rate p.2 ∧ p.2 ≠ one
  | [], _ => ⟨[], rfl, fun _ h => nomatch h⟩
  | d :: l, h => by
    rw [List.all_cons, Bool.and_eq_true] at h
    obtain ⟨p, rfl, hp⟩ := pairW_of h.1
    obtain ⟨w, rfl, hw⟩ := pairs_of h.2
    exact ⟨p :: w, rfl, fun q hq => (List.mem_cons.mp hq).elim (fun e => e ▸ hp) (hw q)⟩
end DL
namespace DL
open PySem PySem.Spec PyProof.Rows L2
/-! ### what is a rule, of any value -/
end DL
namespace DL
open PySem PySem.Spec PyProof.Rows L2
/-! ### runs: dict(zip(..)), x, d[k] = .. -/
section
variable {G : Type} {st : Sl} {g : G} {a b c : M G S} {u : M G (List D)} {d e : D} {i j : Nat}
def kDz (ds : List D) (st : Sl) (g : G) : Option (S × Sl × G) := match ds with
  | [.tup xs, .tup ys] => if (keyLs xs).isSome = true then some (.ow (.dct (mergeD (xs.zip ys))), st, g) else none
  | _ => none
@[simp] theorem kDz_tt {xs ys : List D} (h : (keyLs xs).isSome = true) : kDz [.tup xs, .tup ys] st g = some (.ow (.dct (mergeD (xs.zip ys))), st, g) := nr (by simp only [kDz, h, if_true])
@[simp] theorem r_dz : mDictZip u st g = thn (u st g) kDz .u := nr rfl
def kPd2 (i j : Nat) (fk : M G S) (da db : D) (st : Sl) (g : G) : Option (Fl × Sl × G) := if i < st.length then mDPut j fk (mC db) (st.set i (some (.sh da))) g else none
@[simp] theorem kPd2_eq {fk : M G S} {da db : D} : kPd2 i j fk da db st g = if i < st.length then mDPut j fk (mC db) (st.set i (some (.sh da))) g else none := nr rfl
def kPd1 (i j : Nat) (fk fb : M G S) (da : D) (st : Sl) (g : G) : Option (Fl × Sl × G) := thn (mTake fb st g) (kPd2 i j fk da) .u
@[simp] theorem kPd1_eq {fk fb : M G S} {da : D} : kPd1 i j fk fb da st g = thn (mTake fb st g) (kPd2 i j fk da) .u := nr rfl
@[simp] theorem r_parD : mParD i j a b c st g = thn (mTake a st g) (kPd1 i j c b) .u := nr rfl
end
/-! ### a row as a dict of its columns -/
theorem keyLs_tx : ∀ l : List Str, keyLs (tx l) = some (l.map Sum.inr)
  | [] => rfl
  | x :: l => by simp only [List.map_cons, keyLs, keyD, keyLs_tx l]; rfl
def rkv (cs : List Str) (r : List Int) : List (Str × D) := avE D.int (cs.zip r)
theorem zip_tx : ∀ (cs : List Str) (r : List Int), (tx cs).zip (r.map D.int) = kvE (rkv cs r)
  | [], _ => rfl
  | _ :: _, [] => rfl
  | c :: cs, x :: r => by
    have := zip_tx cs r
    simp only [List.map_cons, List.zip_cons_cons, rkv, avE, kvE] at this ⊢
    rw [this]
theorem rkv_keys {cs : List Str} {r : List Int} (h : cs.length = r.length) : (rkv cs r).map (·.1) = cs := by
  rw [rkv, avE_keys, List.map_fst_zip (by omega)]
theorem rowDict {cs : List Str} {r : List Int} (hn : cs.Nodup) (h : cs.length = r.length) : mergeD ((tx cs).zip (r.map D.int)) = kvE (rkv cs r) := by
  rw [zip_tx, merge_nodup _ (by rw [rkv_keys h]; exact hn)]
/-- the key of a row at a column -/
def kat (cs : List Str) (r : List Int) (c : Str) : Int := (r[idxS c cs]?).getD 0
theorem kat_get : ∀ {cs : List Str} {r : List Int} {c : Str}, cs.length = r.length → c ∈ cs → r[idxS c cs]? = some (kat cs r c) ∧ aget (cs.zip r) c = some (kat cs r c)
  | [], _, _, _, h => nomatch h
  | x :: cs, [], _, h, _ => by simp at h
  | x :: cs, y :: r, c, h, hc => by
    by_cases e : x = c
    · subst e
      have : idxS x (x :: cs) = 0 := by simp [idxS]
      simp [kat, this, aget]
    · have ei : idxS c (x :: cs) = idxS c cs + 1 := by simp [idxS, e]
      have hc' : c ∈ cs := (List.mem_cons.mp hc).resolve_left fun h => e h.symm
      have ih := kat_get (cs := cs) (r := r) (by simpa using h) hc'
      simp only [kat, ei, aget, List.zip_cons_cons, List.find?_cons, e, decide_false, List.getElem?_cons_succ] at ih ⊢
      exact ih
theorem look_row {cs : List Str} {r : List Int} {c : Str} (h : cs.length = r.length) (hc : c ∈ cs) : dlook (kvE (rkv cs r)) (.str c) = some (.int (kat cs r c)) := by
  rw [rkv, dlook_av, (kat_get h hc).2]; rfl
/-! ### rows of a form -/
/-! ### what is counted -/
end DL
namespace DL
open PySem PySem.Spec PyProof.Rows L2
/-! ### runs: d[k] = v with tuple keys -/
section
variable {G : Type} {st : Sl} {g : G} {a b c : M G S} {s t : S} {d e : D} {i : Nat}
def kDn5 (i : Nat) (dk dv : D) (st : Sl) (g : G) : Option (List (D × D)) → Option (Fl × Sl × G)
  | some kvs => if okNK dk = true ∧ kvs.length < sizeLine then some (.nx, st.set i (some (.ow (.dcn (nput kvs dk dv)))), g) else none
  | none => none
@[simp] theorem kDn5_eq {dk dv : D} {kvs : List (D × D)} (h0 : okNK dk = true) (h : kvs.length < sizeLine) : kDn5 i dk dv st g (some kvs) = some (.nx, st.set i (some (.ow (.dcn (nput kvs dk dv)))), g) := nr (if_pos ⟨h0, h⟩)
def kDn4 (i : Nat) (dk dv : D) (st : Sl) (g : G) : Option (Option S) → Option (Fl × Sl × G)
  | some (some (.ow d)) => kDn5 i dk dv st g (nD d)
  | _ => none
@[simp] theorem kDn4_ow {dk dv : D} : kDn4 i dk dv st g (some (some (.ow d))) = kDn5 i dk dv st g (nD d) := nr rfl
def kDn3 (i : Nat) (dv : D) (st : Sl) (g : G) : Option D → Option (Fl × Sl × G)
  | some dk => kDn4 i dk dv st g st[i]?
  | none => none
@[simp] theorem kDn3_some {dv : D} : kDn3 i dv st g (some d) = kDn4 i d dv st g st[i]? := nr rfl
def kDn2 (i : Nat) (dv : D) (k : S) (st : Sl) (g : G) : Option (Fl × Sl × G) := kDn3 i dv st g (peek k st)
@[simp] theorem kDn2_eq {dv : D} : kDn2 i dv s st g = kDn3 i dv st g (peek s st) := nr rfl
def kDn1 (i : Nat) (fk : M G S) (dv : D) (_ : S) (st : Sl) (g : G) : Option (Fl × Sl × G) := thn (fk st g) (kDn2 i dv) .u
@[simp] theorem kDn1_eq {dv : D} : kDn1 i a dv s st g = thn (a st g) (kDn2 i dv) .u := nr rfl
def kDn0 (i : Nat) (fk : M G S) (dv : D) (st : Sl) (g : G) : Option (Fl × Sl × G) := thn (mAt i st g) (kDn1 i fk dv) .u
@[simp] theorem kDn0_eq {dv : D} : kDn0 i a dv st g = thn (mAt i st g) (kDn1 i a dv) .u := nr rfl
@[simp] theorem r_dputN : mDPutN i a b st g = thn (mTake b st g) (kDn0 i a) .u := nr (by
  unfold mDPutN thn kDn0; congr 1; funext dv st g
  unfold thn kDn1; congr 1; funext x st g
  unfold thn kDn2; congr 1; funext k st g
  cases peek k st with
  | none => rfl
  | some dk =>
    show (match st[i]? with
      | some (some (.ow d)) => (nD d).bind fun kvs => if okNK dk = true ∧ kvs.length < sizeLine then some (.nx, st.set i (some (.ow (.dcn (nput kvs dk dv)))), g) else none
      | _ => none) = kDn4 i dk dv st g st[i]?
    generalize st[i]? = o
    exact match o with
      | none => rfl
      | some none => rfl
      | some (some (.sh _)) => rfl
      | some (some (.at _)) => rfl
      | some (some .any) => rfl
      | some (some (.ow d)) => by
        show (nD d).bind _ = kDn5 i dk dv st g (nD d)
        cases nD d <;> rfl)
end
/-- a loop that draws nothing -/
theorem for_inv {p : Pt} {body : M Dk Fl} {items : List D} {st : Sl} {g : Dk} (J : Nat → Sl → Prop) (h0 : J 0 st)
    (hs : ∀ k d st, items[k]? = some d → J k st → ∃ st1, asg p d st = some st1 ∧ ∃ st2, body st1 g = some (.nx, st2, g) ∧ J (k + 1) st2) : ∃ st', forM p body items st g = some (.nx, st', g) ∧ J items.length st' := by
  obtain ⟨fl, st', g', e, h⟩ := for_wp (p := p) (body := body) (items := items) (st := st) (g := g) (Q := fun fl st g' => fl = .nx ∧ g' = g ∧ J items.length st) (fun k st g' => g' = g ∧ J k st) ⟨rfl, h0⟩ (fun k d st g' hk hj => by
    obtain ⟨rfl, hj⟩ := hj
    obtain ⟨st1, e1, st2, e2, e3⟩ := hs k d st hk hj
    refine ⟨st1, e1, ?_⟩
    rw [e2]
    exact wp_some ⟨rfl, rfl, e3⟩) fun st g' hj => ⟨rfl, hj.1, hj.2⟩
  obtain ⟨rfl, rfl, h⟩ := h
  exact ⟨st', e, h⟩
/-! ### spots: dials with keys -/
abbrev Spot := Str × Int
def spE (p : Spot) : D := .tup [.str p.1, .int p.2]
def spPut (L : List Spot) (p : Spot) : List Spot := if p ∈ L then L else L ++ [p]
structure SpOk (dl : List (Str × Str)) (L : List Spot) : Prop where
  nd : L.Nodup
  dial : ∀ p ∈ L, p.1 ∈ dl.map (·.2)
  key : ∀ p ∈ L, 0 ≤ p.2 ∧ p.2 ≤ 99
theorem SpOk.nil {dl : List (Str × Str)} : SpOk dl [] := ⟨List.Pairwise.nil, (fun _ h => nomatch h), fun _ h => nomatch h⟩
theorem SpOk.put {dl : List (Str × Str)} {L : List Spot} (h : SpOk dl L) {p : Spot} (h1 : p.1 ∈ dl.map (·.2)) (h2 : 0 ≤ p.2 ∧ p.2 ≤ 99) : SpOk dl (spPut L p) := by
  unfold spPut
  split
  · exact h
  · rename_i hn
    have mem : ∀ q ∈ L ++ [p], q ∈ L ∨ q = p := fun q hq => by simpa using hq
    refine ⟨?_, fun q hq => ?_, fun q hq => ?_⟩
    · rw [List.nodup_append]
      refine ⟨h.nd, by simp, fun a ha b hb e => ?_⟩
      cases List.mem_singleton.mp hb
      exact hn (e ▸ ha)
    · rcases mem q hq with hq | rfl
      · exact h.dial q hq
      · exact h1
    · rcases mem q hq with hq | rfl
      · exact h.key q hq
      · exact h2
end DL
namespace DL
open PySem PySem.Spec PyProof.Rows L2
/-! ### the spots -/
theorem zip_row (cs : List Str) (r : List Int) : zipD (tx cs) (r.map D.int) = (cs.zip r).map fun p => D.tup [.str p.1, .int p.2] := by
  unfold zipD
  rw [tx, List.zipWith_map, List.map_zip_eq_zipWith]
  rfl
end DL
namespace DL
open PySem PySem.Spec PyProof.Rows L2
/-! ### numbers -/
/-! ### a draw -/
abbrev Trip := Spot × Rt
def trE (t : Trip) : D := .tup [.str t.1.1, .int t.1.2, rateE t.2]
end DL
namespace DL
open PySem PySem.Spec PyProof.Rows L2
end DL
namespace DL
open PySem PySem.Spec PyProof.Rows L2
/-! ### what is a draw -/
/-! ### what is hidden -/
end DL
namespace DL
open PySem PySem.Spec PyProof.Rows L2
/-! ### draws may be shown -/
end DL
namespace DL
open PySem PySem.Spec PyProof.Rows L2
noncomputable def L_fitting_0 : M Dk Fl := (mSeq (mIf (mTest (mOp opNe (mGet2 (mVar 3) (mVar 4) (mVar 5)) (mVar 5))) (mRet (mC .non)) mNext) (mDPut 3 (mVar 4) (mVar 5)))
noncomputable def B_fitting : M Dk Fl := (mSeq (mSet 3 (mUn opDict (mVar 0))) (mSeq (mFor (srcZip (mCons (mVar 1) (mCons (mVar 2) mNil))) (.tp [(.nm 4), (.nm 5)]) L_fitting_0) (mRet (mVar 3))))
noncomputable def F_fitting : Fn Dk := mFn 3 6 B_fitting
noncomputable def C_full_rows_0 : M Dk S := (mLc (srcSeq (mVar 5)) (.nm 10) [10] mYes (mCall F_fitting (mCons (mVar 9) (mCons (mVar 7) (mCons (mVar 10) mNil)))))
noncomputable def L_full_rows_1 : M Dk Fl := (mDrop (mMethL 8 opExt C_full_rows_0))
noncomputable def C_full_rows_2 : M Dk S := (mLc (srcSeq (mVar 8)) (.nm 9) [9] (mTest (mOp (opIs true) (mVar 9) (mC .non))) (mVar 9))
noncomputable def L_full_rows_3 : M Dk Fl := (mIf (mTest (mOp (opIn false) (mVar 6) (mVar 2))) (mSeq (mSet 8 (mLst mNil)) (mSeq (mFor (srcSeq (mVar 3)) (.nm 9) L_full_rows_1) (mSet 3 (mShr C_full_rows_2)))) mNext)
noncomputable def C_full_rows_4 : M Dk S := (mLc (srcSeq (mVar 4)) (.nm 11) [11] mYes (mOp opIx (mVar 9) (mVar 11)))
noncomputable def C_full_rows_5 : M Dk S := (mLc (srcSeq (mVar 3)) (.nm 9) [9] mYes (mUn opTuple C_full_rows_4))
noncomputable def B_full_rows : M Dk Fl := (mSeq (mSet 3 (mShr (mLst (mCons mDNew mNil)))) (mSeq (mFor (srcZip (mCons (mOp opIx (mVar 0) (mC (.int 1))) (mCons (mVar 1) mNil))) (.tp [(.tp [(.nm 6), (.nm 7)]), (.nm 5)]) L_full_rows_3) (mSeq (mSet 4 (mCall F_columns_of (mCons (mVar 0) (mCons (mVar 2) mNil)))) (mRet (mUn opTuple (mUn opSort C_full_rows_5))))))
noncomputable def F_full_rows : Fn Dk := mFn 3 12 B_full_rows
noncomputable def C_part_of_0 : M Dk S := (mLc (srcSeq (mCall F_columns_of (mCons (mVar 0) (mCons (mVar 3) mNil)))) (.nm 5) [5] mYes (mOp opIx (mVar 4) (mVar 5)))
noncomputable def B_part_of : M Dk Fl := (mSeq (mSet 4 (mShr (mDictZip (mCons (mCall F_columns_of (mCons (mVar 0) (mCons (mVar 2) mNil))) (mCons (mVar 1) mNil))))) (mRet (mUn opTuple C_part_of_0)))
noncomputable def F_part_of : Fn Dk := mFn 4 6 B_part_of
/-- a loop that goes on or is left with r -/
theorem for_opt {α β : Type} {p : Pt} {body : M Dk Fl} {g : Dk} (enc : α → D) (step : β → α → Option β) (mk : Nat → β → Sl → Prop) (r : D) : ∀ (l : List α) (k : Nat),
    (∀ k' a b st, k ≤ k' → k' < k + l.length → a ∈ l → mk k' b st → ∃ st1, asg p (enc a) st = some st1 ∧ ∃ st2, body st1 g = some ((step b a).elim (.rt r) fun _ => .nx, st2, g) ∧ ∀ b', step b a = some b' → mk (k' + 1) b' st2) →
    ∀ (b : β) (st : Sl), mk k b st → ∃ st', forM p body (l.map enc) st g = some ((l.foldlM step b).elim (.rt r) fun _ => .nx, st', g) ∧ ∀ b', l.foldlM step b = some b' → mk (k + l.length) b' st'
  | [], k, hs, b, st, h => ⟨st, rfl, fun b' e => by cases e; exact h⟩
  | a :: l, k, hs, b, st, h => by
    obtain ⟨st1, e1, st2, e2, e3⟩ := hs k a b st (Nat.le_refl _) (by simp) List.mem_cons_self h
    rw [List.map_cons]
    unfold forM
    simp only [e1, Option.bind_some, e2, bnd_some, List.foldlM_cons]
    cases hb : step b a with
    | none => exact ⟨st2, rfl, fun b' e => by cases e⟩
    | some b1 =>
      obtain ⟨st', e4, e5⟩ := for_opt enc step mk r l (k + 1) (fun k' a' b st h1 h2 h3 h4 => hs k' a' b st (by omega) (by simp; omega) (List.mem_cons_of_mem _ h3) h4) b1 st2 (e3 b1 hb)
      refine ⟨st', e4, fun b' e => ?_⟩
      have := e5 b' e
      rw [List.length_cons, show k + (l.length + 1) = k + 1 + l.length by omega]
      exact this
/-! ### rows that fit -/
abbrev Rw := List (Str × Int)
def rwE (row : Rw) : D := .dct (kvE (avE D.int row))
def fitS (row : Rw) (p : Str × Int) : Option Rw := if (aget row p.1).getD p.2 = p.2 then some (aput row p.1 p.2) else none
def fitR (row : Rw) (l : List (Str × Int)) : Option Rw := l.foldlM fitS row
theorem look_rw (row : Rw) (c : Str) (k : Int) : (dlook (kvE (avE D.int row)) (.str c)).getD (.int k) = .int ((aget row c).getD k) := by
  rw [dlook_av]
  cases aget row c <;> rfl
theorem opDict_rw (row : Rw) : opDict (rwE row) = some (.ow (rwE row)) := by
  unfold rwE; rfl
theorem fitting_eq {row : Rw} {cs : List Str} {r : List Int} {g : Dk} (hz : row.length ≤ 1000) (hz2 : cs.length ≤ 1000) : F_fitting [rwE row, .tup (tx cs), rowE r] g = some ((fitR row (cs.zip r)).elim .non rwE, g) := by
  obtain ⟨st', e, hJ⟩ := for_opt (p := .tp [.nm 4, .nm 5]) (body := L_fitting_0) (g := g) (fun p : Str × Int => D.tup [.str p.1, .int p.2]) fitS (fun k b st => b.length ≤ 1000 + k ∧ ∃ x4 x5, st = [some (.sh (rwE row)), some (.sh (.tup (tx cs))), some (.sh (rowE r)), some (.ow (rwE b)), x4, x5]) .non (cs.zip r) 0 (fun k p b st _ hk _ ⟨hb, x4, x5, hst⟩ => by
    subst hst
    rw [List.length_zip] at hk
    have lk := look_rw b p.1 p.2
    have en := opNe_int ((aget b p.1).getD p.2) p.2
    have pt : dput (kvE (avE D.int b)) (.str p.1) (.int p.2) = kvE (avE D.int (aput b p.1 p.2)) := by rw [dput_str]; exact congrArg kvE (aput_eq D.int b p.1 p.2)
    have hl : (kvE (avE D.int b)).length < sizeLine := by rw [kvE_len]; simp only [avE, List.length_map]; rw [sizeLine_eq]; omega
    obtain ⟨d0, hd0⟩ : ∃ d0, d0 = rwE row := ⟨_, rfl⟩
    obtain ⟨d2, hd2⟩ : ∃ d2, d2 = rowE r := ⟨_, rfl⟩
    rw [← hd0, ← hd2]
    refine ⟨[some (.sh d0), some (.sh (.tup (tx cs))), some (.sh d2), some (.ow (rwE b)), some (.sh (.str p.1)), some (.sh (.int p.2))], by simp, ?_⟩
    unfold rwE
    obtain ⟨kv, hkv⟩ : ∃ kv, kv = kvE (avE D.int b) := ⟨_, rfl⟩
    rw [← hkv] at lk pt hl ⊢
    by_cases hc : (aget b p.1).getD p.2 = p.2
    · have es : fitS b p = some (aput b p.1 p.2) := by unfold fitS; rw [if_pos hc]
      rw [decide_eq_true hc] at en
      rw [es]
      refine ⟨[some (.sh d0), some (.sh (.tup (tx cs))), some (.sh d2), some (.ow (rwE (aput b p.1 p.2))), some (.sh (.str p.1)), some (.sh (.int p.2))], ?_, fun b' e => ?_⟩
      · unfold rwE
        rw [← pt]
        simp (dsimp := false) [L_fitting_0, lk, en, hl]
      · cases e
        have := aput_len b p.1 p.2
        exact ⟨by omega, _, _, rfl⟩
    · have es : fitS b p = none := by unfold fitS; rw [if_neg hc]
      rw [decide_eq_false hc] at en
      rw [es]
      refine ⟨[some (.sh d0), some (.sh (.tup (tx cs))), some (.sh d2), some (.ow (.dct kv)), some (.sh (.str p.1)), some (.sh (.int p.2))], ?_, fun b' e => by cases e⟩
      simp (dsimp := false) [L_fitting_0, lk, en]) row [some (.sh (rwE row)), some (.sh (.tup (tx cs))), some (.sh (rowE r)), some (.ow (rwE row)), none, none] ⟨by omega, none, none, rfl⟩
  have od := opDict_rw row
  refine mFn_run rfl ?_
  show (B_fitting [some (.sh (rwE row)), some (.sh (.tup (tx cs))), some (.sh (rowE r)), none, none, none] g).map _ = _
  rw [← zip_row] at e
  unfold fitR
  cases hf : (cs.zip r).foldlM fitS row with
  | none =>
    rw [hf] at e
    obtain ⟨dw, hdw⟩ : ∃ dw, dw = rwE row := ⟨_, rfl⟩
    rw [← hdw] at e od ⊢
    unfold rowE at e ⊢
    simp only [Option.elim] at e ⊢
    simp (dsimp := false) [B_fitting, od, e]
  | some b =>
    obtain ⟨_, x4, x5, hst⟩ := hJ b hf
    subst hst
    rw [hf] at e
    obtain ⟨db, hdb⟩ : ∃ db, db = rwE b := ⟨_, rfl⟩
    obtain ⟨dw, hdw⟩ : ∃ dw, dw = rwE row := ⟨_, rfl⟩
    rw [← hdw] at e od ⊢
    rw [← hdb] at e
    unfold rowE at e ⊢
    simp only [Option.elim] at e ⊢
    simp (dsimp := false) [B_fitting, od, e, hdb]
end DL
namespace DL
open PySem PySem.Spec PyProof.Rows L2
def optE (o : Option Rw) : D := o.elim .non rwE
/-- all rows of the tables ahead fitted with the rows of one more -/
def fitAll (rows : List Rw) (cs : List Str) (t : List (List Int)) : List (Option Rw) := rows.flatMap fun row => t.map fun r => fitR row (cs.zip r)
def moreR (fr : List Str) (rows : List Rw) (p : (Str × List Str) × List (List Int)) : List Rw := if p.1.1 ∈ fr then (fitAll rows p.1.2 p.2).filterMap id else rows
theorem opExt_ll {a b : List D} (h : a.length + b.length ≤ sizeLine) : opExt (.lst a) (.lst b) = some (.lst (a ++ b)) := by simp only [opExt, h, if_true]
theorem opIs_optE (o : Option Rw) : opIs true (optE o) .non = some (.sh (.bl o.isSome)) := by
  cases o with
  | none => rfl
  | some row => simp only [optE, Option.elim]; unfold rwE; rfl
section
variable {g : Dk} {sc tb fd x10 x11 : D} {rows : List Rw} {cs : List Str} {t : List (List Int)} {nm : Str}
def frS (sc tb fd : D) (d3 : S) (x4 x5 x6 x7 : Option S) (x8 x9 : Option S) : Sl := [some (.sh sc), some (.sh tb), some (.sh fd), some d3, x4, x5, x6, x7, x8, x9, none, none]
theorem fr1 {row : Rw} {d3 : S} {acc : List (Option Rw)} (hz : row.length ≤ 1000) (hz2 : cs.length ≤ 1000) (hl : acc.length + t.length ≤ 1000000) :
    L_full_rows_1 (frS sc tb fd d3 none (some (.sh (tabE t))) (some (.sh (.str nm))) (some (.sh (.tup (tx cs)))) (some (.ow (.lst (acc.map optE)))) (some (.sh (rwE row)))) g = some (.nx, frS sc tb fd d3 none (some (.sh (tabE t))) (some (.sh (.str nm))) (some (.sh (.tup (tx cs)))) (some (.ow (.lst ((acc ++ t.map fun r => fitR row (cs.zip r)).map optE)))) (some (.sh (rwE row))), g) := by
  have c : C_full_rows_0 (frS sc tb fd d3 none (some (.sh (tabE t))) (some (.sh (.str nm))) (some (.sh (.tup (tx cs)))) (some (.ow (.lst (acc.map optE)))) (some (.sh (rwE row)))) g = some (.ow (.lst (t.map fun r => optE (fitR row (cs.zip r)))), frS sc tb fd d3 none (some (.sh (tabE t))) (some (.sh (.str nm))) (some (.sh (.tup (tx cs)))) (some (.ow (.lst (acc.map optE)))) (some (.sh (rwE row))), g) := by
    unfold C_full_rows_0
    refine lc_all t rowE (fun r => optE (fitR row (cs.zip r))) (cells := [.sh (.tup (t.map rowE))]) (by unfold frS tabE; simp) rfl fun r hr => ⟨_, by unfold frS; simp; rfl, rfl, ?_⟩
    have e := fitting_eq (row := row) (cs := cs) (r := r) (g := g) hz hz2
    unfold optE
    obtain ⟨d0, hd0⟩ : ∃ d0, d0 = rwE row := ⟨_, rfl⟩
    obtain ⟨d1, hd1⟩ : ∃ d1, d1 = (fitR row (cs.zip r)).elim .non rwE := ⟨_, rfl⟩
    obtain ⟨d2, hd2⟩ : ∃ d2, d2 = rowE r := ⟨_, rfl⟩
    rw [← hd0, ← hd1, ← hd2] at e
    rw [← hd0, ← hd1, ← hd2]
    simp (dsimp := false) [e]
  have ap : opExt (.lst (acc.map optE)) (.lst (t.map fun r => optE (fitR row (cs.zip r)))) = some (.lst ((acc ++ t.map fun r => fitR row (cs.zip r)).map optE)) := by
    rw [opExt_ll (by rw [List.length_map, List.length_map, sizeLine_eq]; omega), List.map_append, List.map_map]
    rfl
  obtain ⟨l1, h1⟩ : ∃ l1, l1 = acc.map optE := ⟨_, rfl⟩
  obtain ⟨l2, h2⟩ : ∃ l2, l2 = (t.map fun r => optE (fitR row (cs.zip r))) := ⟨_, rfl⟩
  obtain ⟨l3, h3⟩ : ∃ l3, l3 = (acc ++ t.map fun r => fitR row (cs.zip r)).map optE := ⟨_, rfl⟩
  rw [← h1, ← h2] at c
  rw [← h1, ← h2, ← h3] at ap
  rw [← h1, ← h3]
  unfold frS at c ⊢
  simp (dsimp := false) [L_full_rows_1, c, ap]
end
theorem filt_opt (l : List (Option Rw)) : ((l.filter Option.isSome).map optE) = (l.filterMap id).map rwE := by
  induction l with
  | nil => rfl
  | cons o l ih =>
    cases o with
    | none => simpa using ih
    | some row => simp only [List.filter_cons, Option.isSome_some, if_true, List.map_cons, ih, List.filterMap_cons, id]; rfl
theorem fr3 {g : Dk} {sc tb : D} {fr : List Str} {rows : List Rw} {cs : List Str} {t : List (List Int)} {nm : Str} {x8 x9 : Option S} (hin : nm ∈ fr) (hr : ∀ row ∈ rows, row.length ≤ 1000) (hz2 : cs.length ≤ 1000) (hl : rows.length * t.length ≤ 100000) (hl2 : t.length ≤ 100000) :
    ∃ z8 z9, L_full_rows_3 (frS sc tb (.tup (tx fr)) (.sh (.lst (rows.map rwE))) none (some (.sh (tabE t))) (some (.sh (.str nm))) (some (.sh (.tup (tx cs)))) x8 x9) g = some (.nx, frS sc tb (.tup (tx fr)) (.sh (.lst (((fitAll rows cs t).filterMap id).map rwE))) none (some (.sh (tabE t))) (some (.sh (.str nm))) (some (.sh (.tup (tx cs)))) z8 z9, g) := by
  obtain ⟨st', e, hJ⟩ := for_inv (p := .nm 9) (body := L_full_rows_1) (g := g) (items := rows.map rwE) (st := frS sc tb (.tup (tx fr)) (.sh (.lst (rows.map rwE))) none (some (.sh (tabE t))) (some (.sh (.str nm))) (some (.sh (.tup (tx cs)))) (some (.ow (.lst []))) x9)
    (fun k st => ∃ x9, st = frS sc tb (.tup (tx fr)) (.sh (.lst (rows.map rwE))) none (some (.sh (tabE t))) (some (.sh (.str nm))) (some (.sh (.tup (tx cs)))) (some (.ow (.lst ((fitAll (rows.take k) cs t).map optE)))) x9) ⟨x9, rfl⟩ (fun k d st hk ⟨y9, hst⟩ => by
      subst hst
      rw [List.getElem?_map] at hk
      obtain ⟨row, hrow, rfl⟩ := Option.map_eq_some_iff.mp hk
      have hkl : k < rows.length := (List.getElem?_eq_some_iff.mp hrow).1
      have hlen : ∀ l : List Rw, (fitAll l cs t).length = l.length * t.length := by
        intro l
        induction l with
        | nil => simp [fitAll]
        | cons a l ih =>
          have : fitAll (a :: l) cs t = (t.map fun r => fitR a (cs.zip r)) ++ fitAll l cs t := by simp [fitAll]
          rw [this, List.length_append, ih, List.length_map, List.length_cons, Nat.succ_mul, Nat.add_comm]
      refine ⟨frS sc tb (.tup (tx fr)) (.sh (.lst (rows.map rwE))) none (some (.sh (tabE t))) (some (.sh (.str nm))) (some (.sh (.tup (tx cs)))) (some (.ow (.lst ((fitAll (rows.take k) cs t).map optE)))) (some (.sh (rwE row))), by unfold frS; simp, ?_⟩
      refine ⟨_, fr1 (hr row (List.mem_of_getElem? hrow)) hz2 ?_, some (.sh (rwE row)), ?_⟩
      · rw [hlen, List.length_take]
        have : min k rows.length * t.length ≤ rows.length * t.length := Nat.mul_le_mul_right _ (Nat.min_le_right _ _)
        omega
      · have ef : fitAll (rows.take (k + 1)) cs t = fitAll (rows.take k) cs t ++ t.map fun r => fitR row (cs.zip r) := by
          rw [List.take_add_one, hrow]
          simp [fitAll]
        rw [ef])
  obtain ⟨y9, hst⟩ := hJ
  subst hst
  rw [List.length_map, List.take_length] at e
  have ei := opIn_tup false nm fr
  rw [decide_eq_true hin] at ei
  obtain ⟨L, hL⟩ : ∃ L, L = fitAll rows cs t := ⟨_, rfl⟩
  rw [← hL] at e ⊢
  have c : C_full_rows_2 (frS sc tb (.tup (tx fr)) (.sh (.lst (rows.map rwE))) none (some (.sh (tabE t))) (some (.sh (.str nm))) (some (.sh (.tup (tx cs)))) (some (.ow (.lst (L.map optE)))) y9) g = some (.ow (.lst ((L.filterMap id).map rwE)), frS sc tb (.tup (tx fr)) (.sh (.lst (rows.map rwE))) none (some (.sh (tabE t))) (some (.sh (.str nm))) (some (.sh (.tup (tx cs)))) (some (.sh (.lst (L.map optE)))) none, g) := by
    rw [← filt_opt]
    unfold C_full_rows_2
    refine lc_pure1 L optE Option.isSome optE (st1 := frS sc tb (.tup (tx fr)) (.sh (.lst (rows.map rwE))) none (some (.sh (tabE t))) (some (.sh (.str nm))) (some (.sh (.tup (tx cs)))) (some (.sh (.lst (L.map optE)))) y9) (w0 := frS sc tb (.tup (tx fr)) (.sh (.lst (rows.map rwE))) none (some (.sh (tabE t))) (some (.sh (.str nm))) (some (.sh (.tup (tx cs)))) (some (.sh (.lst (L.map optE)))) none) (cells := [.sh (.lst (L.map optE))]) (by unfold frS; simp) rfl fun o ho => ⟨_, by unfold frS; simp; rfl, rfl, ?_, fun _ => by simp⟩
    have eo := opIs_optE o
    obtain ⟨d1, h1⟩ : ∃ d1, d1 = optE o := ⟨_, rfl⟩
    rw [← h1] at eo ⊢
    simp (dsimp := false) [eo]
  refine ⟨some (.sh (.lst (L.map optE))), none, ?_⟩
  obtain ⟨l1, h1⟩ : ∃ l1, l1 = L.map optE := ⟨_, rfl⟩
  obtain ⟨l2, h2⟩ : ∃ l2, l2 = (L.filterMap id).map rwE := ⟨_, rfl⟩
  obtain ⟨l3, h3⟩ : ∃ l3, l3 = rows.map rwE := ⟨_, rfl⟩
  obtain ⟨l4, h4⟩ : ∃ l4, l4 = tx fr := ⟨_, rfl⟩
  rw [← h1, ← h2, ← h3, ← h4] at c
  rw [← h1, ← h3, ← h4] at e
  rw [← h1, ← h2, ← h3, ← h4]
  rw [← h4] at ei
  unfold frS at c e ⊢
  simp (dsimp := false) [L_full_rows_3, ei, e, c]
end DL
namespace DL
open PySem
/-! ### rows that fit, plain -/
/-- f agrees with the row -/
def Agr (f : Str → Int) (row : Rw) : Prop := ∀ c k, aget row c = some k → f c = k
theorem fitR_cons (row : Rw) (p : Str × Int) (l : List (Str × Int)) : fitR row (p :: l) = (fitS row p).bind fun b => fitR b l := by
  unfold fitR
  rw [List.foldlM_cons]
  rfl
theorem fitS_some {row b : Rw} {p : Str × Int} (h : fitS row p = some b) : b = aput row p.1 p.2 ∧ ∀ k, aget row p.1 = some k → k = p.2 := by
  unfold fitS at h
  split at h
  · rename_i hc
    cases h
    exact ⟨rfl, fun k hk => by rw [hk] at hc; exact hc⟩
  · cases h
theorem aget_some {row : Rw} {c : Str} : (aget row c).isSome = true ↔ c ∈ row.map (·.1) := by
  unfold aget
  rw [Option.isSome_map, List.find?_isSome, List.mem_map]
  constructor
  · rintro ⟨p, hp, h⟩; exact ⟨p, hp, by simpa using h⟩
  · rintro ⟨p, hp, h⟩; exact ⟨p, hp, by simpa using h⟩
/-- what comes of rows that fit -/
theorem fitR_some : ∀ {l : List (Str × Int)} {row b : Rw}, fitR row l = some b → (∀ c k, aget row c = some k → aget b c = some k) ∧ (∀ p ∈ l, aget b p.1 = some p.2) ∧ (∀ c, c ∈ b.map (·.1) → c ∈ row.map (·.1) ∨ c ∈ l.map (·.1)) ∧ b.length ≤ row.length + l.length
  | [], row, b, h => by
    cases h
    exact ⟨fun _ _ h => h, (fun _ h => nomatch h), fun c h => .inl h, Nat.le_refl _⟩
  | p :: l, row, b, h => by
    rw [fitR_cons] at h
    obtain ⟨b1, e1, e2⟩ := Option.bind_eq_some_iff.mp h
    obtain ⟨rfl, hk⟩ := fitS_some e1
    obtain ⟨h1, h2, h3, h4⟩ := fitR_some e2
    refine ⟨fun c k hc => h1 c k ?_, fun q hq => ?_, fun c hc => ?_, ?_⟩
    · rw [aget_put]
      by_cases e : c = p.1
      · subst e; rw [if_pos rfl, hk k hc]
      · rw [if_neg e]; exact hc
    · rcases List.mem_cons.mp hq with rfl | hq
      · exact h1 _ _ (by rw [aget_put, if_pos rfl])
      · exact h2 q hq
    · rcases h3 c hc with h | h
      · rcases (aput_keys row p.1 p.2 c).mp h with rfl | h
        · exact .inr (by simp)
        · exact .inl h
      · exact .inr (by rw [List.map_cons]; exact List.mem_cons_of_mem _ h)
    · have := aput_len row p.1 p.2
      rw [List.length_cons]
      omega
theorem fitR_of {f : Str → Int} : ∀ {l : List (Str × Int)} {row : Rw}, Agr f row → (∀ p ∈ l, f p.1 = p.2) → ∃ b, fitR row l = some b ∧ Agr f b
  | [], row, h, _ => ⟨row, rfl, h⟩
  | p :: l, row, h, hl => by
    have hp := hl p List.mem_cons_self
    have e : fitS row p = some (aput row p.1 p.2) := by
      unfold fitS
      rw [if_pos]
      cases hg : aget row p.1 with
      | none => rfl
      | some k => rw [← h _ _ hg, hp]; rfl
    have ha : Agr f (aput row p.1 p.2) := fun c k hc => by
      rw [aget_put] at hc
      by_cases ec : c = p.1
      · rw [if_pos ec] at hc; cases hc; rw [ec]; exact hp
      · rw [if_neg ec] at hc; exact h c k hc
    obtain ⟨b, e2, h2⟩ := fitR_of ha fun q hq => hl q (List.mem_cons_of_mem _ hq)
    exact ⟨b, by rw [fitR_cons, e]; exact e2, h2⟩
end DL
namespace DL
open PySem
abbrev HT' := (Str × List Str) × List (List Int)
/-- the rows of all tables of the frame, fitted -/
def rowsP (fr : List Str) (ps : List HT') : List Rw := ps.foldl (moreR fr) [[]]
/-- a table with its head -/
structure HTok (p : HT') : Prop where
  wide : ∀ r ∈ p.2, r.length = p.1.2.length
  few : p.1.2.length ≤ 5
  cnd : p.1.2.Nodup
  rnd : p.2.Nodup
structure RowOk (fr : List Str) (ps : List HT') (row : Rw) : Prop where
  has : ∀ p ∈ ps, p.1.1 ∈ fr → ∃ r ∈ p.2, ∀ q ∈ p.1.2.zip r, aget row q.1 = some q.2
  key : ∀ c ∈ row.map (·.1), ∃ p ∈ ps, p.1.1 ∈ fr ∧ c ∈ p.1.2
  len : row.length ≤ 5 * ps.length
theorem mem_more {fr : List Str} {rows : List Rw} {p : HT'} {b : Rw} (hp : p.1.1 ∈ fr) : b ∈ moreR fr rows p ↔ ∃ row ∈ rows, ∃ r ∈ p.2, fitR row (p.1.2.zip r) = some b := by
  unfold moreR fitAll
  rw [if_pos hp]
  simp [List.mem_filterMap, List.mem_flatMap]
theorem RowOk.more {fr : List Str} {ps0 : List HT'} {rows : List Rw} {p : HT'} (hp : HTok p) (h : ∀ row ∈ rows, RowOk fr ps0 row) : ∀ row ∈ moreR fr rows p, RowOk fr (ps0 ++ [p]) row := fun b hb => by
  by_cases hin : p.1.1 ∈ fr
  · obtain ⟨row, hr, r, hr2, e⟩ := (mem_more hin).mp hb
    obtain ⟨h1, h2, h3, h4⟩ := fitR_some e
    have R := h row hr
    refine ⟨fun q hq hqf => ?_, fun c hc => ?_, ?_⟩
    · rcases List.mem_append.mp hq with hq | hq
      · obtain ⟨r', hr', e'⟩ := R.has q hq hqf
        exact ⟨r', hr', fun x hx => h1 _ _ (e' x hx)⟩
      · cases List.mem_singleton.mp hq
        exact ⟨r, hr2, h2⟩
    · rcases h3 c hc with hc | hc
      · obtain ⟨q, hq, e'⟩ := R.key c hc
        exact ⟨q, List.mem_append_left _ hq, e'⟩
      · obtain ⟨x, hx, rfl⟩ := List.mem_map.mp hc
        exact ⟨p, by simp, hin, (List.of_mem_zip hx).1⟩
    · have := R.len
      have hf := hp.few
      rw [List.length_zip] at h4
      rw [List.length_append, List.length_singleton]
      omega
  · have hb : b ∈ rows := by unfold moreR at hb; rwa [if_neg hin] at hb
    have R := h b hb
    refine ⟨fun q hq hqf => ?_, fun c hc => ?_, ?_⟩
    · rcases List.mem_append.mp hq with hq | hq
      · exact R.has q hq hqf
      · cases List.mem_singleton.mp hq; exact absurd hqf hin
    · obtain ⟨q, hq, e'⟩ := R.key c hc
      exact ⟨q, List.mem_append_left _ hq, e'⟩
    · have := R.len
      rw [List.length_append, List.length_singleton]
      omega
theorem rows_go {fr : List Str} : ∀ (ps ps0 : List HT') (rows : List Rw), (∀ p ∈ ps, HTok p) → (∀ row ∈ rows, RowOk fr ps0 row) → ∀ row ∈ ps.foldl (moreR fr) rows, RowOk fr (ps0 ++ ps) row
  | [], ps0, rows, _, h => by rw [List.append_nil]; exact h
  | p :: ps, ps0, rows, hp, h => by
    rw [List.foldl_cons, show ps0 ++ p :: ps = (ps0 ++ [p]) ++ ps by simp]
    exact rows_go ps (ps0 ++ [p]) _ (fun q hq => hp q (List.mem_cons_of_mem _ hq)) (RowOk.more (hp p List.mem_cons_self) h)
theorem rowsP_ok {fr : List Str} {ps : List HT'} (hp : ∀ p ∈ ps, HTok p) : ∀ row ∈ rowsP fr ps, RowOk fr ps row := by
  have := rows_go (fr := fr) ps [] [[]] hp (fun row hr => by
    cases List.mem_singleton.mp hr
    exact ⟨(fun _ h => nomatch h), (fun _ h => nomatch h), Nat.zero_le _⟩)
  rwa [List.nil_append] at this
/-- every row that has its parts in the tables comes -/
theorem rows_all {fr : List Str} {f : Str → Int} : ∀ (ps : List HT') (rows : List Rw), (∀ p ∈ ps, p.1.1 ∈ fr → p.1.2.map f ∈ p.2) → (∃ row ∈ rows, Agr f row) → ∃ row ∈ ps.foldl (moreR fr) rows, Agr f row
  | [], rows, _, h => h
  | p :: ps, rows, hp, ⟨row, hr, ha⟩ => by
    rw [List.foldl_cons]
    refine rows_all ps _ (fun q hq => hp q (List.mem_cons_of_mem _ hq)) ?_
    by_cases hin : p.1.1 ∈ fr
    · have hm := hp p List.mem_cons_self hin
      obtain ⟨b, e, hb⟩ := fitR_of (f := f) (l := p.1.2.zip (p.1.2.map f)) ha fun q hq => by
        rw [List.zip_map_right] at hq
        obtain ⟨⟨x, y⟩, hx, rfl⟩ := List.mem_map.mp hq
        have : x = y := by
          have := List.of_mem_zip hx
          obtain ⟨i, hi⟩ := List.mem_iff_getElem?.mp hx
          rw [List.getElem?_zip_eq_some] at hi
          have := hi.1.symm.trans hi.2
          exact Option.some.inj this
        show f x = f y
        rw [this]
      exact ⟨b, (mem_more hin).mpr ⟨row, hr, _, hm, e⟩, hb⟩
    · exact ⟨row, by unfold moreR; rwa [if_neg hin], ha⟩
theorem rowsP_all {fr : List Str} {f : Str → Int} {ps : List HT'} (h : ∀ p ∈ ps, p.1.1 ∈ fr → p.1.2.map f ∈ p.2) : ∃ row ∈ rowsP fr ps, Agr f row :=
  rows_all ps [[]] h ⟨[], List.mem_singleton.mpr rfl, fun c k hc => by cases hc⟩
/-- two rows that differ -/
def Dif (a b : Rw) : Prop := ∃ c k k', aget a c = some k ∧ aget b c = some k' ∧ k ≠ k'
theorem Dif.ext {a b a' b' : Rw} (h : Dif a b) (ha : ∀ c k, aget a c = some k → aget a' c = some k) (hb : ∀ c k, aget b c = some k → aget b' c = some k) : Dif a' b' :=
  let ⟨c, k, k', h1, h2, h3⟩ := h; ⟨c, k, k', ha _ _ h1, hb _ _ h2, h3⟩
theorem row_dif : ∀ {cs : List Str} {r r' : List Int}, r.length = cs.length → r'.length = cs.length → r ≠ r' → ∃ c k k', (c, k) ∈ cs.zip r ∧ (c, k') ∈ cs.zip r' ∧ k ≠ k'
  | [], r, r', h1, h2, hn => by
    have e1 := List.length_eq_zero_iff.mp h1
    have e2 := List.length_eq_zero_iff.mp h2
    exact absurd (e1.trans e2.symm) hn
  | c :: cs, [], _, h1, _, _ => by simp at h1
  | c :: cs, _ :: _, [], _, h2, _ => by simp at h2
  | c :: cs, x :: r, y :: r', h1, h2, hn => by
    by_cases e : x = y
    · subst e
      obtain ⟨c', k, k', m1, m2, m3⟩ := row_dif (cs := cs) (r := r) (r' := r') (by simpa using h1) (by simpa using h2) (fun z => hn (by rw [z]))
      exact ⟨c', k, k', by simp [m1], by simp [m2], m3⟩
    · exact ⟨c, x, y, by simp, by simp, e⟩
theorem pw_filterMap {α β : Type} {R : α → α → Prop} {S : β → β → Prop} (f : α → Option β) (h : ∀ a b x y, R a b → f a = some x → f b = some y → S x y) : ∀ {l : List α}, l.Pairwise R → (l.filterMap f).Pairwise S
  | [], _ => List.Pairwise.nil
  | a :: l, hl => by
    have h2 := List.pairwise_cons.mp hl
    have ih := pw_filterMap f h h2.2
    cases e : f a with
    | none => rw [List.filterMap_cons_none e]; exact ih
    | some x =>
      rw [List.filterMap_cons_some e]
      refine List.pairwise_cons.mpr ⟨fun y hy => ?_, ih⟩
      obtain ⟨b, hb, eb⟩ := List.mem_filterMap.mp hy
      exact h a b x y (h2.1 b hb) e eb
theorem dif_more {fr : List Str} {rows : List Rw} {p : HT'} (hp : HTok p) (h : rows.Pairwise Dif) : (moreR fr rows p).Pairwise Dif := by
  unfold moreR
  split
  · have key : ∀ rows : List Rw, rows.Pairwise Dif → (fitAll rows p.1.2 p.2).Pairwise fun a b => ∀ x y, a = some x → b = some y → Dif x y := by
      intro rows
      induction rows with
      | nil => intro _; exact List.Pairwise.nil
      | cons row rows ih =>
        intro hr
        have h2 := List.pairwise_cons.mp hr
        have e : fitAll (row :: rows) p.1.2 p.2 = (p.2.map fun r => fitR row (p.1.2.zip r)) ++ fitAll rows p.1.2 p.2 := by simp [fitAll]
        rw [e]
        refine List.pairwise_append.mpr ⟨?_, ih h2.2, fun a ha b hb x y ex ey => ?_⟩
        · rw [List.pairwise_map]
          refine List.Pairwise.imp_of_mem (fun {r r'} hr hr' hne x y ex ey => ?_) hp.rnd
          obtain ⟨c, k, k', m1, m2, m3⟩ := row_dif (hp.wide r hr) (hp.wide r' hr') hne
          exact ⟨c, k, k', (fitR_some ex).2.1 _ m1, (fitR_some ey).2.1 _ m2, m3⟩
        · obtain ⟨r, _, rfl⟩ := List.mem_map.mp ha
          unfold fitAll at hb
          obtain ⟨row', hrow', hb⟩ := List.mem_flatMap.mp hb
          obtain ⟨r', _, rfl⟩ := List.mem_map.mp hb
          exact (h2.1 row' hrow').ext (fitR_some ex).1 (fitR_some ey).1
    exact pw_filterMap id (fun a b x y hab ex ey => hab x y ex ey) (key rows h)
  · exact h
theorem rows_dif {fr : List Str} : ∀ (ps : List HT') (rows : List Rw), (∀ p ∈ ps, HTok p) → rows.Pairwise Dif → (ps.foldl (moreR fr) rows).Pairwise Dif
  | [], rows, _, h => h
  | p :: ps, rows, hp, h => by
    rw [List.foldl_cons]
    exact rows_dif ps _ (fun q hq => hp q (List.mem_cons_of_mem _ hq)) (dif_more (hp p List.mem_cons_self) h)
theorem rowsP_dif {fr : List Str} {ps : List HT'} (hp : ∀ p ∈ ps, HTok p) : (rowsP fr ps).Pairwise Dif := rows_dif ps [[]] hp (List.pairwise_singleton _ _)
end DL
namespace DL
open PySem PySem.Spec PyProof.Rows L2
theorem fitAll_len (cs : List Str) (t : List (List Int)) : ∀ l : List Rw, (fitAll l cs t).length = l.length * t.length
  | [] => by simp [fitAll]
  | a :: l => by
    have : fitAll (a :: l) cs t = (t.map fun r => fitR a (cs.zip r)) ++ fitAll l cs t := by simp [fitAll]
    rw [this, List.length_append, fitAll_len cs t l, List.length_map, List.length_cons, Nat.succ_mul, Nat.add_comm]
theorem more_len {fr : List Str} {rows : List Rw} {p : HT'} {m : Nat} (hm : p.2.length ≤ m) (h1 : 1 ≤ m) : (moreR fr rows p).length ≤ rows.length * m := by
  unfold moreR
  split
  · refine Nat.le_trans (List.length_filterMap_le _ _) ?_
    rw [fitAll_len]
    exact Nat.mul_le_mul_left _ hm
  · exact Nat.le_mul_of_pos_right _ h1
theorem rowsP_take {fr : List Str} {ps : List HT'} {k : Nat} {p : HT'} (h : ps[k]? = some p) : rowsP fr (ps.take (k + 1)) = moreR fr (rowsP fr (ps.take k)) p := by
  unfold rowsP
  rw [List.take_add_one, h, List.foldl_append]
  rfl
def projR (cs : List Str) (row : Rw) : List Int := cs.map fun c => (aget row c).getD 0
noncomputable def srtR (l : List (List Int)) : List (List Int) := l.mergeSort fun a b => leD (rowE a) (rowE b)
theorem msD_rows (l : List (List Int)) : msD (l.map rowE) = (srtR l).map rowE := by
  unfold msD srtR
  exact (List.map_mergeSort (r := fun a b => leD (rowE a) (rowE b)) (s := leD) (f := rowE) fun a _ b _ => rfl).symm
theorem srtR_perm (l : List (List Int)) : (srtR l).Perm l := List.mergeSort_perm _ _
theorem srtR_asc {l : List (List Int)} (h : l.Nodup) : Asc ((srtR l).map rowE) := by
  have hs : (srtR l).Pairwise fun a b => leD (rowE a) (rowE b) = true := List.pairwise_mergeSort (le := fun a b => leD (rowE a) (rowE b)) (fun a b c h1 h2 => leD_trans h1 h2) (fun a b => leD_total (rowE a) (rowE b)) l
  have hn : (srtR l).Nodup := (srtR_perm l).nodup_iff.mpr h
  unfold Asc
  rw [List.pairwise_map]
  refine (hs.and hn).imp fun {a b} ⟨h1, h2⟩ => ?_
  cases e : ltD (rowE a) (rowE b) with
  | true => rfl
  | false =>
    have h3 : ltD (rowE b) (rowE a) = false := by simpa [leD] using h1
    exact absurd (rowE_inj (injT_rows [a, b] _ (by simp) _ (by simp) e h3)) h2
theorem okSort_rows (l : List (List Int)) : okSort (l.map rowE) = true := okSort_tups (fun d hd => by
    obtain ⟨p, _, rfl⟩ := List.mem_map.mp hd
    exact ⟨by simp only [rowE, D.pl, pls_ints], rfl, Nat.le_trans (depth_row p) (by decide)⟩) fun a ha b hb => by
    obtain ⟨p, _, rfl⟩ := List.mem_map.mp ha
    obtain ⟨q, _, rfl⟩ := List.mem_map.mp hb
    exact alike_rows p q
/-- the full rows of a frame -/
noncomputable def fullR (hs : List (Str × List Str)) (ts : List (List (List Int))) (fr : List Str) : List (List Int) := srtR ((rowsP fr (hs.zip ts)).map (projR (colsL hs fr)))
end DL
namespace DL
open PySem PySem.Spec PyProof.Rows L2
theorem htok {m : Nat} {dl : List (Str × Str)} {hs : List (Str × List Str)} {ts : List (List (List Int))} (hh : Heads dl hs) (ht : Tabs m hs ts) : ∀ p ∈ hs.zip ts, HTok p := fun p hp => by
  have T := ht.tab p hp
  have hm := (List.of_mem_zip hp).1
  have := hh.cfew _ hm
  refine ⟨T.wide, by omega, asc_nodup (hh.casc _ hm), ?_⟩
  have := T.asc
  unfold Asc at this
  rw [List.pairwise_map] at this
  refine this.imp fun {a b} h e => ?_
  rw [e, ltD_irrefl] at h; cases h
theorem rowsP_len {m : Nat} {fr : List Str} {hs : List (Str × List Str)} {ts : List (List (List Int))} (ht : Tabs m hs ts) (hm : m ≤ 6) : ∀ k, (rowsP fr ((hs.zip ts).take k)).length ≤ 6 ^ k
  | 0 => by simp [rowsP]
  | k + 1 => by
    have ih := rowsP_len (fr := fr) ht hm k
    cases hp : (hs.zip ts)[k]? with
    | none =>
      rw [List.take_add_one, hp]
      simp only [Option.toList_none, List.append_nil]
      exact Nat.le_trans ih (Nat.pow_le_pow_right (by decide) (by omega))
    | some p =>
      rw [rowsP_take hp]
      have h := more_len (fr := fr) (rows := rowsP fr ((hs.zip ts).take k)) (p := p) (m := 6) (by have := (ht.tab p (List.mem_of_getElem? hp)).few; omega) (by decide)
      rw [Nat.pow_succ]
      exact Nat.le_trans h (Nat.mul_le_mul_right _ ih)
theorem frLoop {m : Nat} {g : Dk} {dl : List (Str × Str)} {hs : List (Str × List Str)} {ts : List (List (List Int))} {fr : List Str} {sc : D} (hh : Heads dl hs) (ht : Tabs m hs ts) (hm : m ≤ 6) :
    ∃ st', forM (.tp [(.tp [(.nm 6), (.nm 7)]), (.nm 5)]) L_full_rows_3 (zipD (hs.map headE) (ts.map tabE)) (frS sc (.tup (ts.map tabE)) (.tup (tx fr)) (.sh (.lst [rwE []])) none none none none none none) g = some (.nx, st', g) ∧ ∃ x5 x6 x7 x8 x9, st' = frS sc (.tup (ts.map tabE)) (.tup (tx fr)) (.sh (.lst ((rowsP fr (hs.zip ts)).map rwE))) none x5 x6 x7 x8 x9 := by
  have hfew := hh.few
  have hok := htok hh ht
  rw [zip_heads]
  have ez : (hs.zip (ts.map tabE)).map (fun p => D.tup [headE p.1, p.2]) = (hs.zip ts).map fun p => D.tup [headE p.1, tabE p.2] := by
    rw [List.zip_map_right, List.map_map]
    rfl
  rw [ez]
  obtain ⟨st', e, hJ⟩ := for_inv (p := .tp [(.tp [(.nm 6), (.nm 7)]), (.nm 5)]) (body := L_full_rows_3) (g := g) (items := (hs.zip ts).map fun p => D.tup [headE p.1, tabE p.2]) (st := frS sc (.tup (ts.map tabE)) (.tup (tx fr)) (.sh (.lst [rwE []])) none none none none none none)
    (fun k st => ∃ x5 x6 x7 x8 x9, st = frS sc (.tup (ts.map tabE)) (.tup (tx fr)) (.sh (.lst ((rowsP fr ((hs.zip ts).take k)).map rwE))) none x5 x6 x7 x8 x9) ⟨none, none, none, none, none, rfl⟩ (fun k d st hk ⟨y5, y6, y7, y8, y9, hst⟩ => by
      subst hst
      rw [List.getElem?_map] at hk
      obtain ⟨p, hp, rfl⟩ := Option.map_eq_some_iff.mp hk
      have hk5 : k < (hs.zip ts).length := (List.getElem?_eq_some_iff.mp hp).1
      rw [List.length_zip] at hk5
      have hpm := List.mem_of_getElem? hp
      have hmz := List.of_mem_zip hpm
      have hcf := hh.cfew _ hmz.1
      have htf := (ht.tab p hpm).few
      have hlen := rowsP_len (fr := fr) ht hm k
      have hlen2 : 6 ^ k ≤ 6 ^ 4 := Nat.pow_le_pow_right (by decide) (by omega)
      refine ⟨frS sc (.tup (ts.map tabE)) (.tup (tx fr)) (.sh (.lst ((rowsP fr ((hs.zip ts).take k)).map rwE))) none (some (.sh (tabE p.2))) (some (.sh (.str p.1.1))) (some (.sh (.tup (tx p.1.2)))) y8 y9, by show asg _ (.tup [.tup [.str p.1.1, .tup (p.1.2.map D.str)], tabE p.2]) _ = _; unfold frS; simp [tx], ?_⟩
      by_cases hin : p.1.1 ∈ fr
      · obtain ⟨z8, z9, e3⟩ := fr3 (g := g) (sc := sc) (tb := .tup (ts.map tabE)) (fr := fr) (rows := rowsP fr ((hs.zip ts).take k)) (cs := p.1.2) (t := p.2) (nm := p.1.1) (x8 := y8) (x9 := y9) hin (fun row hr => by
          have := (rowsP_ok (fr := fr) (ps := (hs.zip ts).take k) (fun q hq => hok q (List.mem_of_mem_take hq)) row hr).len
          rw [List.length_take, List.length_zip] at this
          omega) (by omega) (by
            refine Nat.le_trans (Nat.mul_le_mul (Nat.le_trans hlen hlen2) (Nat.le_trans htf hm)) (by decide)) (by omega)
        refine ⟨_, e3, some (.sh (tabE p.2)), some (.sh (.str p.1.1)), some (.sh (.tup (tx p.1.2))), z8, z9, ?_⟩
        rw [rowsP_take hp]
        unfold moreR
        rw [if_pos hin]
      · have ei := opIn_tup false p.1.1 fr
        rw [decide_eq_false hin] at ei
        refine ⟨frS sc (.tup (ts.map tabE)) (.tup (tx fr)) (.sh (.lst ((rowsP fr ((hs.zip ts).take k)).map rwE))) none (some (.sh (tabE p.2))) (some (.sh (.str p.1.1))) (some (.sh (.tup (tx p.1.2)))) y8 y9, ?_, some (.sh (tabE p.2)), some (.sh (.str p.1.1)), some (.sh (.tup (tx p.1.2))), y8, y9, by rw [rowsP_take hp]; unfold moreR; rw [if_neg hin]⟩
        obtain ⟨l4, h4⟩ : ∃ l4, l4 = tx fr := ⟨_, rfl⟩
        obtain ⟨l5, h5⟩ : ∃ l5, l5 = (rowsP fr ((hs.zip ts).take k)).map rwE := ⟨_, rfl⟩
        rw [← h4] at ei ⊢
        rw [← h5]
        unfold frS
        simp (dsimp := false) [L_full_rows_3, ei])
  refine ⟨st', e, ?_⟩
  obtain ⟨y5, y6, y7, y8, y9, h1⟩ := hJ
  refine ⟨y5, y6, y7, y8, y9, ?_⟩
  rw [h1, List.length_map, List.take_length]
end DL
namespace DL
open PySem PySem.Spec PyProof.Rows L2
theorem colsL_mem {hs : List (Str × List Str)} {fr : List Str} {c : Str} : c ∈ colsL hs fr ↔ ∃ p ∈ hs, p.1 ∈ fr ∧ c ∈ p.2 := by
  unfold colsL
  rw [ssT_mem, List.mem_flatMap]
  simp only [List.mem_filter, decide_eq_true_eq]
  exact ⟨fun ⟨p, ⟨h1, h2⟩, h3⟩ => ⟨p, h1, h2, h3⟩, fun ⟨p, h1, h2, h3⟩ => ⟨p, ⟨h1, h2⟩, h3⟩⟩
theorem zip_left {α β : Type} {l : List α} {m : List β} (h : m.length = l.length) {a : α} (ha : a ∈ l) : ∃ b, (a, b) ∈ l.zip m := by
  obtain ⟨i, hi⟩ := List.mem_iff_getElem?.mp ha
  have hl : i < l.length := (List.getElem?_eq_some_iff.mp hi).1
  refine ⟨m[i]'(by omega), ?_⟩
  refine List.mem_iff_getElem?.mpr ⟨i, ?_⟩
  rw [List.getElem?_zip_eq_some]
  exact ⟨hi, List.getElem?_eq_getElem (by omega)⟩
theorem row_has {m : Nat} {dl : List (Str × Str)} {hs : List (Str × List Str)} {ts : List (List (List Int))} {fr : List Str} (hh : Heads dl hs) (ht : Tabs m hs ts) {row : Rw} (hr : row ∈ rowsP fr (hs.zip ts)) {c : Str} (hc : c ∈ colsL hs fr) : ∃ k, aget row c = some k := by
  obtain ⟨p, hp, hpf, hcp⟩ := colsL_mem.mp hc
  obtain ⟨t, hz⟩ := zip_left ht.len hp
  have R := rowsP_ok (fr := fr) (htok hh ht) row hr
  obtain ⟨r, hr2, e⟩ := R.has (p, t) hz hpf
  have hw := (ht.tab (p, t) hz).wide r hr2
  obtain ⟨k, hk⟩ := zip_left hw hcp
  exact ⟨k, e _ hk⟩
theorem fullRows_eq {m : Nat} {g : Dk} {dl : List (Str × Str)} {hs : List (Str × List Str)} {ts : List (List (List Int))} {fr : List Str} (hd : Dials dl) (hh : Heads dl hs) (ht : Tabs m hs ts) (hm : m ≤ 6) (hf : ∀ x ∈ fr, x ∈ hs.map (·.1)) (hz : fr.length ≤ 10) :
    F_full_rows [schE dl hs, .tup (ts.map tabE), .tup (tx fr)] g = some (.tup ((fullR hs ts fr).map rowE), g) := by
  obtain ⟨st', eL, x5, x6, x7, x8, x9, hst⟩ := frLoop (fr := fr) (sc := schE dl hs) (g := g) hh ht hm
  subst hst
  have ec := columnsOf_eq (dl := dl) (g := g) hh hf hz
  rw [cols_same hh hf] at ec
  obtain ⟨cols, hcols⟩ : ∃ cols, cols = colsL hs fr := ⟨_, rfl⟩
  have hcl : cols.length ≤ 5 := by rw [hcols]; exact cols_len hd hh
  have hhas : ∀ row ∈ rowsP fr (hs.zip ts), ∀ c ∈ cols, ∃ k, aget row c = some k := fun row hr c hc => row_has hh ht hr (by rw [← hcols]; exact hc)
  have hrl := rowsP_len (fr := fr) ht hm (hs.zip ts).length
  rw [List.take_length] at hrl
  have hz4 : (hs.zip ts).length ≤ 4 := by rw [List.length_zip]; have := hh.few; omega
  have h64 : 6 ^ (hs.zip ts).length ≤ 6 ^ 4 := Nat.pow_le_pow_right (by decide) hz4
  unfold fullR
  rw [← hcols] at ec ⊢
  obtain ⟨rows, hrows⟩ : ∃ rows, rows = rowsP fr (hs.zip ts) := ⟨_, rfl⟩
  rw [← hrows] at eL hhas hrl ⊢
  have hrl2 : rows.length ≤ 1296 := Nat.le_trans hrl h64
  obtain ⟨sc, hsc⟩ : ∃ sc, sc = schE dl hs := ⟨_, rfl⟩
  have hix : opIx sc (.int 1) = some (.sh (.tup (hs.map headE))) := by rw [hsc]; unfold schE; simp
  rw [← hsc] at eL ec ⊢
  obtain ⟨tb, htb⟩ : ∃ tb, tb = ts.map tabE := ⟨_, rfl⟩
  rw [← htb] at eL ⊢
  obtain ⟨fd, hfd⟩ : ∃ fd, fd = tx fr := ⟨_, rfl⟩
  rw [← hfd] at eL ec ⊢
  have c5 : C_full_rows_5 [some (.sh sc), some (.sh (.tup tb)), some (.sh (.tup fd)), some (.sh (.lst (rows.map rwE))), some (.sh (.tup (tx cols))), x5, x6, x7, x8, x9, none, none] g = some (.ow (.lst ((rows.map (projR cols)).map rowE)), [some (.sh sc), some (.sh (.tup tb)), some (.sh (.tup fd)), some (.sh (.lst (rows.map rwE))), some (.sh (.tup (tx cols))), x5, x6, x7, x8, none, none, none], g) := by
    rw [List.map_map]
    unfold C_full_rows_5
    refine lc_all rows rwE (fun row => rowE (projR cols row)) (cells := [.sh (.lst (rows.map rwE))]) (w0 := [some (.sh sc), some (.sh (.tup tb)), some (.sh (.tup fd)), some (.sh (.lst (rows.map rwE))), some (.sh (.tup (tx cols))), x5, x6, x7, x8, none, none, none]) (by simp) rfl fun row hr => ⟨[some (.sh sc), some (.sh (.tup tb)), some (.sh (.tup fd)), some (.sh (.lst (rows.map rwE))), some (.sh (.tup (tx cols))), x5, x6, x7, x8, some (.sh (rwE row)), none, none], by simp, rfl, ?_⟩
    have c4 : C_full_rows_4 [some (.sh sc), some (.sh (.tup tb)), some (.sh (.tup fd)), some (.sh (.lst (rows.map rwE))), some (.sh (.tup (tx cols))), x5, x6, x7, x8, some (.sh (rwE row)), none, none] g = some (.ow (.lst ((projR cols row).map D.int)), [some (.sh sc), some (.sh (.tup tb)), some (.sh (.tup fd)), some (.sh (.lst (rows.map rwE))), some (.sh (.tup (tx cols))), x5, x6, x7, x8, some (.sh (rwE row)), none, none], g) := by
      unfold projR
      rw [List.map_map]
      unfold C_full_rows_4
      refine lc_all cols D.str (fun c => .int ((aget row c).getD 0)) (cells := [.sh (.tup (tx cols))]) (by simp [tx]) rfl fun c hc => ⟨_, by simp; rfl, rfl, ?_⟩
      obtain ⟨k, hk⟩ := hhas row hr c hc
      have lk := dlook_av D.int row c
      rw [hk] at lk ⊢
      simp only [Option.map_some, Option.getD_some] at lk ⊢
      unfold rwE
      obtain ⟨kv, hkv⟩ : ∃ kv, kv = kvE (avE D.int row) := ⟨_, rfl⟩
      rw [← hkv] at lk ⊢
      simp (dsimp := false) [lk]
    have hpl : ((projR cols row).map D.int).length ≤ sizeLine := by rw [List.length_map, projR, List.length_map]; exact le_sz (by omega)
    unfold rowE
    obtain ⟨pr, hpr⟩ : ∃ pr, pr = (projR cols row).map D.int := ⟨_, rfl⟩
    rw [← hpr] at c4 hpl ⊢
    simp (dsimp := false) [c4, hpl]
  have os := opSort_lst (okSort_rows (rows.map (projR cols)))
  rw [msD_rows] at os
  have hsl : ((srtR (rows.map (projR cols))).map rowE).length ≤ sizeLine := by
    rw [List.length_map, (srtR_perm _).length_eq, List.length_map]; exact le_sz (by omega)
  obtain ⟨l1, h1⟩ : ∃ l1, l1 = rows.map rwE := ⟨_, rfl⟩
  obtain ⟨l2, h2⟩ : ∃ l2, l2 = (rows.map (projR cols)).map rowE := ⟨_, rfl⟩
  obtain ⟨l3, h3⟩ : ∃ l3, l3 = (srtR (rows.map (projR cols))).map rowE := ⟨_, rfl⟩
  rw [← h1] at eL c5
  rw [← h2] at c5 os
  rw [← h3] at os hsl ⊢
  refine mFn_run rfl ?_
  show (B_full_rows [some (.sh sc), some (.sh (.tup tb)), some (.sh (.tup fd)), none, none, none, none, none, none, none, none, none] g).map _ = _
  unfold frS at eL
  rw [show rwE [] = D.dct [] from rfl] at eL
  simp (dsimp := false) [B_full_rows, hix, eL, ec, c5, os, hsl, le_sz]
end DL
namespace DL
open PySem PySem.Spec PyProof.Rows L2
/-! ### keys of rows, plain -/
theorem idx_here (x : Str) (cs : List Str) : idxS x (x :: cs) = 0 := by simp [idxS]
theorem idx_next {x c : Str} (cs : List Str) (e : x ≠ c) : idxS c (x :: cs) = idxS c cs + 1 := by simp [idxS, e]
theorem kat_here (x : Str) (cs : List Str) (y : Int) (r : List Int) : kat (x :: cs) (y :: r) x = y := by simp [kat, idx_here]
theorem kat_next {x c : Str} (cs : List Str) (y : Int) (r : List Int) (e : x ≠ c) : kat (x :: cs) (y :: r) c = kat cs r c := by simp [kat, idx_next cs e]
theorem kat_map {f : Str → Int} : ∀ {cs : List Str} {c : Str}, c ∈ cs → kat cs (cs.map f) c = f c
  | [], _, h => nomatch h
  | x :: cs, c, hc => by
    rw [List.map_cons]
    by_cases e : x = c
    · subst e; rw [kat_here]
    · rw [kat_next cs _ _ e, kat_map ((List.mem_cons.mp hc).resolve_left fun h => e h.symm)]
theorem map_kat : ∀ {cs : List Str} {r : List Int}, cs.Nodup → cs.length = r.length → cs.map (kat cs r) = r
  | [], [], _, _ => rfl
  | [], _ :: _, _, h => by simp at h
  | _ :: _, [], _, h => by simp at h
  | x :: cs, y :: r, hn, h => by
    have hn2 := List.nodup_cons.mp hn
    rw [List.map_cons, kat_here]
    congr 1
    refine Eq.trans (List.map_congr_left fun c hc => ?_) (map_kat (cs := cs) (r := r) hn2.2 (by simpa using h))
    exact kat_next cs y r fun e => hn2.1 (by rw [e]; exact hc)
theorem zip_fun {f : Str → Int} : ∀ {cs : List Str} {r : List Int}, r.length = cs.length → (∀ q ∈ cs.zip r, f q.1 = q.2) → cs.map f = r
  | [], [], _, _ => rfl
  | [], _ :: _, h, _ => by simp at h
  | _ :: _, [], h, _ => by simp at h
  | x :: cs, y :: r, h, hq => by
    rw [List.map_cons, zip_fun (cs := cs) (r := r) (by simpa using h) fun q hm => hq q (by rw [List.zip_cons_cons]; exact List.mem_cons_of_mem _ hm), hq (x, y) (by simp)]
theorem cols_nodup (hs : List (Str × List Str)) (fr : List Str) : (colsL hs fr).Nodup := asc_nodup (ssT_asc _)
section
variable {m : Nat} {dl : List (Str × Str)} {hs : List (Str × List Str)} {ts : List (List (List Int))} {fr : List Str}
theorem proj_kat {row : Rw} {cs : List Str} {c : Str} (hc : c ∈ cs) : kat cs (projR cs row) c = (aget row c).getD 0 := kat_map hc
/-- a full row has its parts in the tables -/
def IsFull (hs : List (Str × List Str)) (ts : List (List (List Int))) (fr : List Str) (r : List Int) : Prop := (colsL hs fr).length = r.length ∧ ∀ p ∈ hs.zip ts, p.1.1 ∈ fr → p.1.2.map (kat (colsL hs fr) r) ∈ p.2
theorem fullR_mem (hh : Heads dl hs) (ht : Tabs m hs ts) {r : List Int} : r ∈ fullR hs ts fr ↔ IsFull hs ts fr r := by
  have hok := htok hh ht
  unfold fullR
  rw [(srtR_perm _).mem_iff, List.mem_map]
  constructor
  · rintro ⟨row, hr, rfl⟩
    refine ⟨by simp [projR], fun p hp hpf => ?_⟩
    obtain ⟨r', hr', e⟩ := (rowsP_ok hok row hr).has p hp hpf
    have : p.1.2.map (kat (colsL hs fr) (projR (colsL hs fr) row)) = r' := by
      refine zip_fun ((hok p hp).wide r' hr') fun q hq => ?_
      have hc : q.1 ∈ colsL hs fr := colsL_mem.mpr ⟨p.1, (List.of_mem_zip hp).1, hpf, (List.of_mem_zip hq).1⟩
      rw [proj_kat hc, e q hq]
      rfl
    rw [this]
    exact hr'
  · rintro ⟨hl, hp⟩
    obtain ⟨row, hr, ha⟩ := rowsP_all hp
    refine ⟨row, hr, ?_⟩
    have : projR (colsL hs fr) row = (colsL hs fr).map (kat (colsL hs fr) r) := by
      refine List.map_congr_left fun c hc => ?_
      obtain ⟨k, hk⟩ := row_has hh ht hr hc
      rw [hk, ha c k hk]
      rfl
    rw [this, map_kat (cols_nodup hs fr) hl]
theorem fullR_asc (hh : Heads dl hs) (ht : Tabs m hs ts) : Asc ((fullR hs ts fr).map rowE) := by
  have hok := htok hh ht
  refine srtR_asc ?_
  refine List.Pairwise.map _ (fun a b h => h) ?_
  refine List.Pairwise.imp_of_mem (fun {a b} ha hb h e => ?_) (rowsP_dif (fr := fr) hok)
  obtain ⟨c, k, k', h1, h2, h3⟩ := h
  have hc : c ∈ colsL hs fr := by
    obtain ⟨p, hp, hpf, hcp⟩ := (rowsP_ok hok a ha).key c (aget_some.mp (by rw [h1]; rfl))
    exact colsL_mem.mpr ⟨p.1, (List.of_mem_zip hp).1, hpf, hcp⟩
  have e1 := proj_kat (row := a) hc
  have e2 := proj_kat (row := b) hc
  rw [e, e2, h1, h2] at e1
  exact h3 e1.symm
theorem fullR_len (ht : Tabs m hs ts) (hm : m ≤ 6) : (fullR hs ts fr).length ≤ 6 ^ (hs.zip ts).length := by
  unfold fullR
  rw [(srtR_perm _).length_eq, List.length_map]
  have := rowsP_len (fr := fr) ht hm (hs.zip ts).length
  rwa [List.take_length] at this
end
/-! ### what a plan shows, plain: f tells the key of a column -/
theorem sub_cols {hs : List (Str × List Str)} {fr fr' : List Str} (h : ∀ x ∈ fr', x ∈ fr) {c : Str} (hc : c ∈ colsL hs fr') : c ∈ colsL hs fr := by
  obtain ⟨x, h1, h2, h3⟩ := colsL_mem.mp hc
  exact colsL_mem.mpr ⟨x, h1, h _ h2, h3⟩
/-- the part of a row -/
def partR (hs : List (Str × List Str)) (fr : List Str) (r : List Int) (fr' : List Str) : List Int := (colsL hs fr').map (kat (colsL hs fr) r)
theorem kat_part {hs : List (Str × List Str)} {fr fr' : List Str} {r : List Int} {c : Str} (hc : c ∈ colsL hs fr') : kat (colsL hs fr') (partR hs fr r fr') c = kat (colsL hs fr) r c := kat_map hc
theorem part_len {hs : List (Str × List Str)} {fr fr' : List Str} {r : List Int} : (colsL hs fr').length = (partR hs fr r fr').length := by simp [partR]
theorem part_full {hs : List (Str × List Str)} {ts : List (List (List Int))} {fr fr' : List Str} {r : List Int} (h : IsFull hs ts fr r) (hsub : ∀ x ∈ fr', x ∈ fr) : IsFull hs ts fr' (partR hs fr r fr') := by
  refine ⟨part_len, fun p hp hpf => ?_⟩
  have := h.2 p hp (hsub _ hpf)
  have e : p.1.2.map (kat (colsL hs fr') (partR hs fr r fr')) = p.1.2.map (kat (colsL hs fr) r) := List.map_congr_left fun c hc => kat_part (colsL_mem.mpr ⟨p.1, (List.of_mem_zip hp).1, hpf, hc⟩)
  rwa [e]
end DL
namespace DL
open PySem PySem.Spec PyProof.Rows L2
section
variable {dl : List (Str × Str)} {hs : List (Str × List Str)} {g : Dk}
theorem colsOf {fr : List Str} (hh : Heads dl hs) (hf : Frame hs fr) : F_columns_of [schE dl hs, .tup (tx fr)] g = some (.tup (tx (colsL hs fr)), g) := by
  have ec := columnsOf_eq (fr := fr) (g := g) hh hf.sub hf.few
  rwa [cols_same hh hf.sub] at ec
theorem partOf_eq {fr fr' : List Str} {r : List Int} (hd : Dials dl) (hh : Heads dl hs) (hf : Frame hs fr) (hf' : Frame hs fr') (hsub : ∀ x ∈ fr', x ∈ fr) (hl : (colsL hs fr).length = r.length) :
    F_part_of [schE dl hs, rowE r, .tup (tx fr), .tup (tx fr')] g = some (rowE (partR hs fr r fr'), g) := by
  have e1 := colsOf (g := g) hh hf
  have e2 := colsOf (g := g) hh hf'
  have hz : (colsL hs fr').length ≤ 5 := cols_len hd hh
  have hk : (keyLs (tx (colsL hs fr))).isSome = true := by rw [keyLs_tx]; rfl
  have rd := rowDict (cols_nodup hs fr) hl
  have hin : ∀ c ∈ colsL hs fr', c ∈ colsL hs fr := fun c hc => sub_cols hsub hc
  unfold partR
  obtain ⟨cs, hcs⟩ : ∃ cs, cs = colsL hs fr := ⟨_, rfl⟩
  obtain ⟨cs', hcs'⟩ : ∃ cs', cs' = colsL hs fr' := ⟨_, rfl⟩
  rw [← hcs] at e1 hk rd hin hl ⊢
  rw [← hcs'] at e2 hz hin ⊢
  obtain ⟨sc, hsc⟩ : ∃ sc, sc = schE dl hs := ⟨_, rfl⟩
  obtain ⟨fd, hfd⟩ : ∃ fd, fd = D.tup (tx fr) := ⟨_, rfl⟩
  obtain ⟨fd', hfd'⟩ : ∃ fd', fd' = D.tup (tx fr') := ⟨_, rfl⟩
  rw [← hsc, ← hfd] at e1
  rw [← hsc, ← hfd'] at e2
  rw [← hsc, ← hfd, ← hfd']
  have look : ∀ c ∈ cs', dlook (kvE (rkv cs r)) (.str c) = some (.int (kat cs r c)) := fun c hc => look_row hl (hin c hc)
  unfold rowE
  obtain ⟨kv, hkv⟩ : ∃ kv, kv = kvE (rkv cs r) := ⟨_, rfl⟩
  obtain ⟨rl, hrl⟩ : ∃ rl, rl = r.map D.int := ⟨_, rfl⟩
  obtain ⟨cl, hcl⟩ : ∃ cl, cl = tx cs := ⟨_, rfl⟩
  rw [← hkv, ← hrl, ← hcl] at rd
  rw [← hkv] at look
  rw [← hcl] at e1 hk
  rw [← hrl]
  have c0 : C_part_of_0 [some (.sh sc), some (.sh (.tup rl)), some (.sh fd), some (.sh fd'), some (.sh (.dct kv)), none] g = some (.ow (.lst ((cs'.map (kat cs r)).map D.int)), [some (.sh sc), some (.sh (.tup rl)), some (.sh fd), some (.sh fd'), some (.sh (.dct kv)), none], g) := by
    rw [List.map_map]
    unfold C_part_of_0
    refine lc_all cs' D.str (fun c => .int (kat cs r c)) (cells := [.sh (.tup (tx cs'))]) (by simp (dsimp := false) [e2]) rfl fun c hc => ⟨_, by simp; rfl, rfl, ?_⟩
    have := look c hc
    simp (dsimp := false) [this]
  have hpl : ((cs'.map (kat cs r)).map D.int).length ≤ sizeLine := by rw [List.length_map, List.length_map]; exact le_sz (by omega)
  obtain ⟨pl, hpl2⟩ : ∃ pl, pl = (cs'.map (kat cs r)).map D.int := ⟨_, rfl⟩
  rw [← hpl2] at c0 hpl ⊢
  refine mFn_run rfl ?_
  show (B_part_of [some (.sh sc), some (.sh (.tup rl)), some (.sh fd), some (.sh fd'), none, none] g).map _ = _
  simp (dsimp := false) [B_part_of, e1, hk, rd, c0, hpl]
end
end DL
namespace DL
open PySem PySem.Spec PyProof.Rows L2
section
variable {α β γ δ : Type}
variable {e : α → D} {f : β → D} {h : γ → D} {j : δ → D} {n k l m : Nat}
/-! ### data that may be looked at -/
class Dat (e : α → D) (k : outParam Nat) : Prop where
  pl : ∀ a, (e a).pl = true
  dp : ∀ a, (e a).py.depth ≤ k
  eqv : ∀ a b, PyData.eqv (e a).py (e b).py = true ↔ a = b
theorem Dat.pls [Dat e k] : ∀ l : List α, D.pls (l.map e) = true
  | [] => rfl
  | a :: l => by simp only [List.map_cons, D.pls, Dat.pl (e := e) a, Dat.pls l, Bool.and_self]
theorem Dat.dps [Dat e k] : ∀ l : List α, PyData.depthAll (D.pys (l.map e)) ≤ k
  | [] => by simp [D.pys, PyData.depthAll]
  | a :: l => by
    have h1 := Dat.dp (e := e) a
    have h2 := Dat.dps l
    simp only [List.map_cons, D.pys, PyData.depthAll]; omega
theorem Dat.eqvs [Dat e k] : ∀ a b : List α, PyData.eqvAll (D.pys (a.map e)) (D.pys (b.map e)) = true ↔ a = b
  | [], [] => by simp [D.pys, PyData.eqvAll]
  | [], b :: bs => by simp [D.pys, PyData.eqvAll]
  | a :: as, [] => by simp [D.pys, PyData.eqvAll]
  | a :: as, b :: bs => by
    have h1 := Dat.eqv (e := e) a b
    have h2 := Dat.eqvs as bs
    simp only [List.map_cons, D.pys, PyData.eqvAll, Bool.and_eq_true, h1, h2, List.cons.injEq]
instance : Dat D.int 0 := ⟨fun _ => rfl, fun _ => by simp [D.py, PyData.depth], fun a b => by rw [D.py, D.py, eqv_int]; simp⟩
instance : Dat D.str 0 := ⟨fun _ => rfl, fun _ => by simp [D.py, PyData.depth], fun a b => by rw [D.py, D.py, eqv_str]; simp⟩
instance : Dat D.bl 0 := ⟨fun _ => rfl, fun _ => by simp [D.py, PyData.depth], fun a b => by simp [D.py, PyData.eqv]⟩
instance [Dat e k] : Dat (eT e) (k + 1) := ⟨fun a => by simp only [eT, D.pl, Dat.pls (e := e)], fun a => by
    have := Dat.dps (e := e) a
    simp only [eT, D.py, PyData.depth]; omega, fun a b => by
    have := Dat.eqvs (e := e) a b
    simpa only [eT, D.py, PyData.eqv] using this⟩
instance [Dat e k] : Dat (eL e) (k + 1) := ⟨fun a => by simp only [eL, D.pl, Dat.pls (e := e)], fun a => by
    have := Dat.dps (e := e) a
    simp only [eL, D.py, PyData.depth]; omega, fun a b => by
    have := Dat.eqvs (e := e) a b
    simpa only [eL, D.py, PyData.eqv] using this⟩
instance [Dat e k] [Dat f l] : Dat (eP e f) (max k l + 1) := ⟨fun a => by simp only [eP, D.pl, D.pls, Dat.pl (e := e), Dat.pl (e := f), Bool.and_self], fun a => by
    have h1 := Dat.dp (e := e) a.1
    have h2 := Dat.dp (e := f) a.2
    simp only [eP, D.py, D.pys, PyData.depth, PyData.depthAll]; omega, fun a b => by
    have h1 := Dat.eqv (e := e) a.1 b.1
    have h2 := Dat.eqv (e := f) a.2 b.2
    simp only [eP, D.py, D.pys, PyData.eqv, PyData.eqvAll, Bool.and_eq_true, h1, h2, and_true, Prod.ext_iff]⟩
instance [Dat e k] [Dat f l] [Dat h m] : Dat (eP3 e f h) (max k (max l m) + 1) := ⟨fun a => by simp only [eP3, D.pl, D.pls, Dat.pl (e := e), Dat.pl (e := f), Dat.pl (e := h), Bool.and_self], fun a => by
    have h1 := Dat.dp (e := e) a.1
    have h2 := Dat.dp (e := f) a.2.1
    have h3 := Dat.dp (e := h) a.2.2
    simp only [eP3, D.py, D.pys, PyData.depth, PyData.depthAll]; omega, fun a b => by
    have h1 := Dat.eqv (e := e) a.1 b.1
    have h2 := Dat.eqv (e := f) a.2.1 b.2.1
    have h3 := Dat.eqv (e := h) a.2.2 b.2.2
    simp only [eP3, D.py, D.pys, PyData.eqv, PyData.eqvAll, Bool.and_eq_true, h1, h2, h3, and_true, Prod.ext_iff]⟩
instance [Dat e k] [Dat f l] [Dat h m] [Dat j n] : Dat (eP4 e f h j) (max (max k l) (max m n) + 1) := ⟨fun a => by simp only [eP4, D.pl, D.pls, Dat.pl (e := e), Dat.pl (e := f), Dat.pl (e := h), Dat.pl (e := j), Bool.and_self], fun a => by
    have h1 := Dat.dp (e := e) a.1
    have h2 := Dat.dp (e := f) a.2.1
    have h3 := Dat.dp (e := h) a.2.2.1
    have h4 := Dat.dp (e := j) a.2.2.2
    simp only [eP4, D.py, D.pys, PyData.depth, PyData.depthAll]; omega, fun a b => by
    have h1 := Dat.eqv (e := e) a.1 b.1
    have h2 := Dat.eqv (e := f) a.2.1 b.2.1
    have h3 := Dat.eqv (e := h) a.2.2.1 b.2.2.1
    have h4 := Dat.eqv (e := j) a.2.2.2 b.2.2.2
    simp only [eP4, D.py, D.pys, PyData.eqv, PyData.eqvAll, Bool.and_eq_true, h1, h2, h3, h4, and_true, Prod.ext_iff]⟩
theorem Dat.comap [Dat e k] (t : β → α) (ht : ∀ a b, t a = t b → a = b) : Dat (fun b => e (t b)) k := ⟨fun a => Dat.pl (t a), fun a => Dat.dp (t a), fun a b => by rw [Dat.eqv (e := e)]; exact ⟨ht a b, fun h => by rw [h]⟩⟩
theorem Inj.comap [Inj e] (t : β → α) (ht : ∀ a b, t a = t b → a = b) : Inj (fun b => e (t b)) := ⟨fun a b h => ht _ _ (Inj.inj _ _ h)⟩
/-! ### data that may be sorted -/
class Ky (e : α → D) (k : outParam Nat) : Prop where
  nk : ∀ a, ∃ n, nkD (e a) = some n ∧ n.depth ≤ k
  al : ∀ a b, PySem.W.alike (e a).py (e b).py = true
theorem Ky.nks [Ky e k] : ∀ l : List α, ∃ ns, nksD (l.map e) = some ns ∧ NestedKey.depthAll ns ≤ k
  | [] => ⟨[], rfl, by simp [NestedKey.depthAll]⟩
  | a :: l => by
    obtain ⟨n, h1, h2⟩ := Ky.nk (e := e) a
    obtain ⟨ns, h3, h4⟩ := Ky.nks l
    exact ⟨n :: ns, by simp only [List.map_cons, nksD, h1, h3], by simp only [NestedKey.depthAll]; omega⟩
theorem Ky.als [Ky e k] : ∀ a b : List α, PySem.W.alikeAll (D.pys (a.map e)) (D.pys (b.map e)) = true
  | [], _ => by simp [D.pys, PySem.W.alikeAll]
  | _ :: _, [] => by simp [D.pys, PySem.W.alikeAll]
  | a :: as, b :: bs => by
    simp only [List.map_cons, D.pys, PySem.W.alikeAll, Ky.al (e := e) a b, Ky.als as bs, Bool.and_self]
instance : Ky D.int 0 := ⟨fun a => ⟨.num a, rfl, by simp [NestedKey.depth]⟩, fun a b => by simp [D.py, PySem.W.alike]⟩
instance : Ky D.str 0 := ⟨fun a => ⟨.text a, rfl, by simp [NestedKey.depth]⟩, fun a b => by simp [D.py, PySem.W.alike]⟩
instance [Ky e k] : Ky (eT e) (k + 1) := ⟨fun a => by
    obtain ⟨ns, h1, h2⟩ := Ky.nks (e := e) a
    exact ⟨.tup ns, by simp only [eT, nkD, h1, Option.map_some], by simp only [NestedKey.depth]; omega⟩, fun a b => by
    have := Ky.als (e := e) a b
    simpa only [eT, D.py, PySem.W.alike] using this⟩
instance [Ky e k] [Ky f l] : Ky (eP e f) (max k l + 1) := ⟨fun a => by
    obtain ⟨n1, h1, h2⟩ := Ky.nk (e := e) a.1
    obtain ⟨n2, h3, h4⟩ := Ky.nk (e := f) a.2
    exact ⟨.tup [n1, n2], by simp only [eP, nkD, nksD, h1, h3, Option.map_some], by simp only [NestedKey.depth, NestedKey.depthAll]; omega⟩, fun a b => by
    simp only [eP, D.py, D.pys, PySem.W.alike, PySem.W.alikeAll, Ky.al (e := e), Ky.al (e := f), Bool.and_self]⟩
instance [Ky e k] [Ky f l] [Ky h m] : Ky (eP3 e f h) (max k (max l m) + 1) := ⟨fun a => by
    obtain ⟨n1, h1, h2⟩ := Ky.nk (e := e) a.1
    obtain ⟨n2, h3, h4⟩ := Ky.nk (e := f) a.2.1
    obtain ⟨n3, h5, h6⟩ := Ky.nk (e := h) a.2.2
    exact ⟨.tup [n1, n2, n3], by simp only [eP3, nkD, nksD, h1, h3, h5, Option.map_some], by simp only [NestedKey.depth, NestedKey.depthAll]; omega⟩, fun a b => by
    simp only [eP3, D.py, D.pys, PySem.W.alike, PySem.W.alikeAll, Ky.al (e := e), Ky.al (e := f), Ky.al (e := h), Bool.and_self]⟩
theorem Ky.comap [Ky e k] (t : β → α) : Ky (fun b => e (t b)) k := ⟨fun a => Ky.nk (t a), fun a b => Ky.al (t a) (t b)⟩
theorem Ky.tot [Ky e k] [Inj e] {a b : α} (h1 : ltD (e a) (e b) = false) (h2 : ltD (e b) (e a) = false) : a = b := by
  obtain ⟨n1, e1, _⟩ := Ky.nk (e := e) a
  obtain ⟨n2, e2, _⟩ := Ky.nk (e := e) b
  have t := ltD_toks h1 h2
  have al := Ky.al (e := e) a b
  rw [nk_py _ _ e1, nk_py _ _ e2] at t al
  have := (toks_key n1 n2 [] [] al (by rw [t])).1
  rw [← this] at e2
  exact Inj.inj _ _ (nk_inj _ _ _ e1 e2)
/-- tuples, or numbers or texts -/
class Shp (e : α → D) : Prop where
  sh : (∀ a, isTp (e a) = true) ∨ (∀ a, isAt (e a) = true)
instance : Shp D.int := ⟨.inr fun _ => rfl⟩
instance : Shp D.str := ⟨.inr fun _ => rfl⟩
instance : Shp (eT e) := ⟨.inl fun _ => rfl⟩
instance : Shp (eP e f) := ⟨.inl fun _ => rfl⟩
instance : Shp (eP3 e f h) := ⟨.inl fun _ => rfl⟩
instance : Shp (eP4 e f h j) := ⟨.inl fun _ => rfl⟩
theorem nk_depth {d : D} {n : NestedKey} (h : nkD d = some n) : d.py.depth ≤ n.depth := by
  rw [nk_py d n h]; exact Nat.le_of_eq (DX.depth_data n)
end
end DL
namespace DL
open PySem PySem.Spec PyProof.Rows L2
section
variable {α β γ δ : Type}
variable {e : α → D} {f : β → D} {k l m : Nat}
/-! ### operators -/
theorem okEq_dat [Dat e k] (a b : α) (hk : k ≤ 100) : okEq (e a) (e b) = true := by
  have h := Dat.dp (e := e) a
  simp only [okEq, Dat.pl (e := e), Bool.and_true, Bool.true_and, decide_eq_true_eq]
  omega
open Classical in
@[irreducible] noncomputable def eqB (a b : α) : Bool := decide (a = b)
open Classical in
@[irreducible] noncomputable def inB (a : α) (l : List α) : Bool := decide (a ∈ l)
@[simp] theorem eqB_iff {a b : α} : eqB a b = true ↔ a = b := by unfold eqB; simp
@[simp] theorem inB_iff {a : α} {l : List α} : inB a l = true ↔ a ∈ l := by unfold inB; simp
@[simp] theorem eqB_self {a : α} : eqB a a = true := by simp
theorem eqB_false {a b : α} : eqB a b = false ↔ a ≠ b := by rw [← Bool.not_eq_true, eqB_iff]
theorem inB_false {a : α} {l : List α} : inB a l = false ↔ a ∉ l := by rw [← Bool.not_eq_true, inB_iff]
theorem eqD_dat [Dat e k] (a b : α) : eqD (e a) (e b) = eqB a b := by
  have h := Dat.eqv (e := e) a b
  unfold eqD
  rw [Bool.eq_iff_iff, h]; simp
theorem o_eq [Dat e k] (a b : α) (hk : k ≤ 100 := by decide) : opEq (e a) (e b) = some (sOf false (.bl (eqB a b))) := by
  unfold opEq
  rw [if_pos (okEq_dat a b hk), eqD_dat]; rfl
theorem o_ne [Dat e k] (a b : α) (hk : k ≤ 100 := by decide) : opNe (e a) (e b) = some (sOf false (.bl (!eqB a b))) := by
  unfold opNe
  rw [if_pos (okEq_dat a b hk), eqD_dat]; rfl
theorem inD_dat [Dat e k] (a : α) : ∀ l : List α, inD (e a) (l.map e) = inB a l
  | [] => by simp [inD, inB]
  | b :: l => by
    have ih := inD_dat a l
    unfold inD at ih ⊢
    rw [List.map_cons, List.any_cons, ih, eqD_dat, Bool.eq_iff_iff]
    simp only [Bool.or_eq_true, eqB_iff, inB_iff, List.mem_cons]
    exact ⟨fun h => h.imp Eq.symm id, fun h => h.imp Eq.symm id⟩
theorem okIn_dat [Dat e k] (a : α) (l : List α) (hk : k ≤ 100) : okIn (e a) (l.map e) = true := by
  have h := Dat.dp (e := e) a
  simp only [okIn, Dat.pl (e := e), Dat.pls (e := e), Bool.and_true, Bool.true_and, decide_eq_true_eq]
  omega
theorem opIn_t {neg : Bool} {x : D} {ds : List D} (h : okIn x ds = true) : opIn neg x (.tup ds) = some (.sh (.bl (neg ^^ inD x ds))) := by cases x <;> simp only [opIn, h, if_true]
theorem o_inT [Dat e k] (a : α) (l : List α) (hk : k ≤ 100 := by decide) : opIn false (e a) (eT e l) = some (sOf false (.bl (inB a l))) := by
  unfold eT; rw [opIn_t (okIn_dat a l hk), inD_dat]; simp [sOf]
theorem o_ninT [Dat e k] (a : α) (l : List α) (hk : k ≤ 100 := by decide) : opIn true (e a) (eT e l) = some (sOf false (.bl (!inB a l))) := by
  unfold eT; rw [opIn_t (okIn_dat a l hk), inD_dat]; simp [sOf]
theorem lt_b {i n : Nat} (h : Nat.ble (i + 1) n = true) : i < n := Nat.le_of_ble_eq_true h
theorem le_b {i n : Nat} (h : Nat.ble i n = true) : i ≤ n := Nat.le_of_ble_eq_true h
/-! dicts with texts as keys -/
def eK (e : α → D) (d : List (Str × α)) : D := .dct (kvE (avE e d))
theorem o_ixK : ∀ (x : List (Str × α)) (y : Str) z, aget x y = some z → opIx (eK e x) (.str y) = some (sOf false (e z)) := fun x y z h => by
  unfold eK
  rw [opIx_str, dlook_av, h]; rfl
theorem o_dictK (d : List (Str × α)) : opDict (eK e d) = some (sOf true (eK e d)) := rfl
/-! None -/
/-! by place -/
theorem atI_mapE (e : α → D) (l : List α) (i : Int) : atI (l.map e) i = (atI l i).map e := by
  unfold atI
  rw [List.length_map]
  cases ixN l.length i with
  | none => rfl
  | some j => simp
theorem o_ixT : ∀ (x : List α) (y : Int) z, atI x y = some z → opIx (eT e x) (.int y) = some (sOf false (e z)) := fun x y z h => by
  unfold eT; rw [opIx_tup, atI_mapE, h]; rfl
theorem ix21 (a b : D) : opIx (.tup [a, b]) (.int 1) = some (sOf false b) := rfl
/-! lengths, copies -/
theorem o_lenT (l : List α) : opLen (eT e l) = some (sOf false (.int l.length)) := by unfold eT; simp [sOf]
theorem o_tupL (l : List α) : opTuple (eL e l) = some (sOf false (eT e l)) := rfl
/-! put together -/
@[irreducible] def catT (a b : List α) : Option (List α) := if a.length + b.length ≤ sizeLine then some (a ++ b) else none
theorem catT_eq {a b : List α} (h : a.length + b.length ≤ 10000000) : catT a b = some (a ++ b) := by unfold catT; rw [if_pos (by rw [sizeLine_eq]; omega)]
theorem o_catT : ∀ (x y : List α) z, catT x y = some z → opAdd (eT e x) (eT e y) = some (sOf false (eT e z)) := fun x y z h => by
  unfold catT at h
  split at h
  · rename_i hc; cases h; unfold eT; simp only [opAdd, List.length_map, hc, if_true, List.map_append]; rfl
  · cases h
/-! in order -/
@[irreducible] noncomputable def srtE (e : α → D) (l : List α) : List α := l.mergeSort fun a b => leD (e a) (e b)
theorem srtE_map (l : List α) : msD (l.map e) = (srtE e l).map e := by
  unfold msD srtE
  exact (List.map_mergeSort (r := fun a b => leD (e a) (e b)) (s := leD) (f := e) fun a _ b _ => rfl).symm
theorem srtE_perm (e : α → D) (l : List α) : (srtE e l).Perm l := by unfold srtE; exact List.mergeSort_perm _ _
theorem srtE_mem {l : List α} {a : α} : a ∈ srtE e l ↔ a ∈ l := (srtE_perm e l).mem_iff
theorem okSort_ky [Ky e k] [Shp e] (l : List α) (hk : k ≤ 100) : okSort (l.map e) = true := by
  have hp : ∀ d ∈ l.map e, d.pl = true ∧ d.py.depth ≤ 100 := fun d hd => by
    obtain ⟨a, _, rfl⟩ := List.mem_map.mp hd
    obtain ⟨n1, e1, h1⟩ := Ky.nk (e := e) a
    exact ⟨nk_pl _ _ e1, by have := nk_depth e1; omega⟩
  simp only [okSort, Bool.and_eq_true, Bool.or_eq_true, List.all_eq_true, decide_eq_true_eq]
  refine ⟨⟨⟨?_, fun a ha b hb => ?_⟩, depthAll_le fun d hd => (hp d hd).2⟩, ?_⟩
  · have : ∀ l : List D, (∀ d ∈ l, d.pl = true) → D.pls l = true := fun l h => by
      induction l with
      | nil => rfl
      | cons d l ih => simp only [D.pls, h d List.mem_cons_self, ih fun d hd => h d (List.mem_cons_of_mem _ hd), Bool.and_self]
    exact this _ fun d hd => (hp d hd).1
  · obtain ⟨a, _, rfl⟩ := List.mem_map.mp ha
    obtain ⟨b, _, rfl⟩ := List.mem_map.mp hb
    exact Ky.al a b
  · rcases Shp.sh (e := e) with h | h
    · exact .inl fun d hd => by obtain ⟨a, _, rfl⟩ := List.mem_map.mp hd; exact h a
    · exact .inr fun d hd => by obtain ⟨a, _, rfl⟩ := List.mem_map.mp hd; exact h a
theorem o_sortL [Ky e k] [Shp e] (l : List α) (hk : k ≤ 100 := by decide) : opSort (eL e l) = some (sOf true (eL e (srtE e l))) := by
  unfold eL; rw [opSort_lst (okSort_ky l hk), srtE_map]; rfl
/-- ascending, each once -/
@[irreducible] noncomputable def ssE (e : α → D) (l : List α) : List α := (ssD (l.map e)).filterMap (unE e)
class SetOk (e : α → D) : Prop where
  ok : ∀ l : List α, l.length < 64 → okSS (l.map e) = true ∨ okSN (l.map e) = true
instance : SetOk D.str := ⟨fun l h => .inl (okSS_strs h)⟩
instance : SetOk D.int := ⟨fun l h => .inl (by
  simp only [okSS, List.length_map, h, decide_true, Bool.and_true, Bool.or_eq_true, List.all_eq_true]
  exact .inl fun d hd => by obtain ⟨a, _, rfl⟩ := List.mem_map.mp hd; rfl)⟩
theorem setOk_tp [Ky e k] (h : ∀ a, isTp (e a) = true) (hk : k ≤ 8) : SetOk e := ⟨fun l hl => .inr (by
  simp only [okSN, Bool.and_eq_true, List.all_eq_true, decide_eq_true_eq, List.length_map]
  refine ⟨⟨fun d hd => ?_, fun a ha b hb => ?_⟩, hl⟩
  · obtain ⟨a, _, rfl⟩ := List.mem_map.mp hd
    obtain ⟨n1, e1, h1⟩ := Ky.nk (e := e) a
    have ht := h a
    cases he : e a with
    | tup ds =>
      rw [he] at e1
      simp only [nkD] at e1 ⊢
      obtain ⟨ks, e2, rfl⟩ := Option.map_eq_some_iff.mp e1
      rw [e2]
      exact decide_eq_true (p := NestedKey.depth (.tup ks) ≤ 8) (by omega)
    | _ => rw [he] at ht; cases ht
  · obtain ⟨a, _, rfl⟩ := List.mem_map.mp ha
    obtain ⟨b, _, rfl⟩ := List.mem_map.mp hb
    exact Ky.al a b)⟩
@[irreducible] noncomputable def lset (e : α → D) (l : List α) : Option Int := if l.length < 64 then some (ssE e l).length else none
/-! whatever it is -/
@[irreducible] def l1 (op : D → Option S) (x : D) : Option D := match op x with
  | some (.sh z) => some z
  | _ => none
@[irreducible] def l2 (op : D → D → Option S) (x y : D) : Option D := match op x y with
  | some (.sh z) => some z
  | _ => none
theorem o_l1 {op : D → Option S} : ∀ (x : α) z, l1 op (e x) = some z → op (e x) = some (sOf false (eA z)) := fun x z h => by
  unfold l1 at h; split at h
  · rename_i hc; cases h; exact hc
  · cases h
end
end DL
namespace DL
open PySem PySem.Spec PyProof.Rows L2
section
variable {α β γ δ ρ : Type}
variable {Γ Γ1 Γ2 Γ3 : Sl} {i j k : Nat} {d : D} {ow : Bool} {e e1 e2 e3 : M Dk S} {ma : TM α} {mb : TM β} {mc : TM γ} {ea : α → D} {eb : β → D} {ec : γ → D} {x : α} {y : β} {z : γ}
/-! ### dicts: new, zipped, looked at -/
theorem en_dnew (ed : List (Str × α) → D) (x : List (Str × α)) (h : ed x = .dct []) : EN Γ mDNew (pureT x) true ed Γ := fun st g a g' hs hm => by
  obtain ⟨rfl, rfl⟩ := pure_eq hm
  exact ⟨st, by rw [h]; rfl, hs⟩
@[irreducible] def mkd (l : List (Str × α)) : List (Str × α) := l.foldl (fun acc p => aput acc p.1 p.2) []
theorem merge_mkd (ea : α → D) : ∀ (l acc : List (Str × α)), (l.map fun p => (D.str p.1, ea p.2)).foldl (fun acc p => dput acc p.1 p.2) (kvE (avE ea acc)) = kvE (avE ea (l.foldl (fun acc p => aput acc p.1 p.2) acc))
  | [], acc => rfl
  | p :: l, acc => by
    rw [List.map_cons, List.foldl_cons, List.foldl_cons, dput_str, aput_eq, merge_mkd ea l]
theorem mergeD_mkd (ea : α → D) (l : List (Str × α)) : mergeD (l.map fun p => (D.str p.1, ea p.2)) = kvE (avE ea (mkd l)) := by unfold mkd; exact merge_mkd ea l []
theorem en_dictZip {ml : TM (List Str)} {mr : TM (List β)} (h1 : ET Γ e1 ml (eT D.str) Γ1) (h2 : ET Γ1 e2 mr (eT eb) Γ2) : EN Γ (mDictZip (mCons e1 (mCons e2 mNil))) (bindT ml fun l => bindT mr fun r => pureT (mkd (l.zip r))) true (eK eb) Γ2 := fun st g a g' hs hm => by
  obtain ⟨l, g1, m1, hm⟩ := bind_eq hm
  obtain ⟨r, g2, m2, hm⟩ := bind_eq hm
  obtain ⟨rfl, rfl⟩ := pure_eq hm
  obtain ⟨st1, h3, h4⟩ := h1 st g l g1 hs m1
  obtain ⟨st2, h5, h6⟩ := h2 st1 g1 r g2 h4 m2
  refine ⟨st2, ?_, h6⟩
  have e : (l.map D.str).zip (r.map eb) = (l.zip r).map fun p => (D.str p.1, eb p.2) := by
    rw [List.zip_map]; rfl
  unfold mDictZip mCons mNil eT at *
  rw [h3, bnd_some, h5]
  simp only [bnd_some, keyLs_tx, Option.isSome_some, if_true, e, mergeD_mkd]
  rfl
theorem en_get2 {md : TM (List (Str × α))} {mk : TM Str} {mw : TM α} (h1 : EP Γ e1 md (eK ea) Γ) (h2 : EP Γ e2 mk D.str Γ) (h3 : ET Γ e3 mw ea Γ) : EN Γ (mGet2 e1 e2 e3) (bindT md fun d => bindT mk fun k => bindT mw fun w => pureT ((aget d k).getD w)) false ea Γ := fun st g a g' hs hm => by
  obtain ⟨d, g1, m1, hm⟩ := bind_eq hm
  obtain ⟨k, g2, m2, hm⟩ := bind_eq hm
  obtain ⟨w, g3, m3, hm⟩ := bind_eq hm
  obtain ⟨rfl, rfl⟩ := pure_eq hm
  obtain ⟨s1, st1, h4, hs1, p1⟩ := h1 st g d g1 hs m1
  obtain ⟨s2, st2, h5, hs2, p2⟩ := h2 st1 g1 k g2 hs1 m2
  obtain ⟨st3, h6, hs3⟩ := h3 st2 g2 w g3 hs2 m3
  refine ⟨st3, ?_, hs3⟩
  unfold mGet2
  rw [h4, bnd_some, p1 _ hs1]
  simp only [Option.bind_some]
  rw [if_pos (by rfl), h5, bnd_some, h6, bnd_some, p1 _ hs3, p2 _ hs3]
  simp only [Option.bind_some, eK, getK, keyD, dlook_av, Option.map_some]
  cases aget d k <;> rfl
/-! ### slices, chains -/
@[irreducible] def cutT (l : List α) (lo hi : Option Int) : List α := (l.drop (HT.sIx l.length 0 lo)).take (HT.sIx l.length l.length hi - HT.sIx l.length 0 lo)
theorem cutT_map (ea : α → D) (l : List α) (lo hi : Option Int) : cutD (l.map ea) lo hi = (cutT l lo hi).map ea := by
  unfold cutD cutT; rw [List.length_map, List.map_take, List.map_drop]
theorem sIx_nat (m d n : Nat) : HT.sIx m d (some (n : Int)) = min n m := by
  simp only [HT.sIx]
  rw [if_neg (by omega)]; simp
theorem sIx_none (m d : Nat) : HT.sIx m d none = d := rfl
theorem cutT_to {l : List α} {n : Nat} : cutT l none (some (n : Int)) = l.take n := by
  unfold cutT
  rw [sIx_nat, sIx_none, List.drop_zero, Nat.sub_zero]
  by_cases hn : n ≤ l.length
  · rw [Nat.min_eq_left hn]
  · rw [Nat.min_eq_right (by omega), List.take_length, List.take_of_length_le (by omega)]
theorem o_cutT {e : α → D} (l : List α) (lo hi : Option Int) : opSl (eT e l) lo hi = some (sOf false (eT e (cutT l lo hi))) := by
  unfold eT; simp only [opSl, cutT_map]; rfl
def EO (Γ : Sl) (f : M Dk (Option Int)) (m : TM (Option Int)) : Prop := ∀ st g a g', Sat Γ st → m g = some (a, g') → ∃ st', f st g = some (a, st', g') ∧ Sat Γ st'
theorem po_noneT : EO Γ mNoP (pureT none) := fun st g a g' hs hm => by
  obtain ⟨rfl, rfl⟩ := pure_eq hm
  exact ⟨st, rfl, hs⟩
theorem po_someT {mi : TM Int} (h : EN Γ e mi false D.int Γ) : EO Γ (mPart e) (bindT mi fun a => pureT (some a)) := fun st g a g' hs hm => by
  obtain ⟨i, g1, m1, hm⟩ := bind_eq hm
  obtain ⟨rfl, rfl⟩ := pure_eq hm
  obtain ⟨st1, h1, hs1⟩ := h st g i g1 hs m1
  exact ⟨st1, by unfold mPart; rw [h1]; rfl, hs1⟩
theorem po_someV {i : Int} (h : EN Γ e (pureT i) false D.int Γ) : EO Γ (mPart e) (pureT (some i)) := po_someT h
variable {fl fh : M Dk (Option Int)} {ml mh : TM (Option Int)}
theorem en_slV {l h : Option Int} (ha : EP Γ e1 (pureT x) ea Γ) (hl : EO Γ fl (pureT l)) (hh : EO Γ fh (pureT h)) (ho : opSl (ea x) l h = some (sOf ow (ec z))) : EN Γ (mSl e1 fl fh) (pureT z) ow ec Γ := fun st g a g' hs hm => by
  obtain ⟨rfl, rfl⟩ := pure_eq hm
  obtain ⟨s1, st1, h4, hs1, p1⟩ := ha st g x g hs rfl
  obtain ⟨st2, h5, hs2⟩ := hl st1 g l g hs1 rfl
  obtain ⟨st3, h6, hs3⟩ := hh st2 g h g hs2 rfl
  refine ⟨st3, ?_, hs3⟩
  unfold mSl
  rw [h4, bnd_some, h5, bnd_some, h6, bnd_some, p1 _ hs3, Option.bind_some, ho]
  rfl
/-! ### own things changed, names given -/
@[irreducible] def appT (l : List α) (a : α) : Option (List α) := if l.length < sizeLine then some (l ++ [a]) else none
theorem appT_eq {l : List α} {a : α} (h : l.length ≤ 10000000) : appT l a = some (l ++ [a]) := by unfold appT; rw [if_pos (by rw [sizeLine_eq]; omega)]
theorem o_app {e : α → D} : ∀ (x : List α) (y : α) z, appT x y = some z → opApp (eL e x) (e y) = some (eL e z) := fun x y z h => by
  unfold appT at h
  split at h
  · rename_i hc; cases h; unfold eL; rw [opApp_lst (by rw [List.length_map]; exact hc), List.map_append]; rfl
  · cases h
theorem o_extL {e : α → D} : ∀ (x y : List α) z, catT x y = some z → opExt (eL e x) (eL e y) = some (eL e z) := fun x y z h => by
  unfold catT at h
  split at h
  · rename_i hc; cases h; unfold eL; simp only [opExt, List.length_map, hc, if_true, List.map_append]
  · cases h
theorem jn_meth {op : D → D → Option D} {el : α → D} {x : List α} {f : List α → β → Option (List α)} {Γ' : List α → Sl} (h : Γ[i]? = some (some (.ow (eL el x)))) (hb : ET Γ e mb eb Γ) (ho : ∀ x y z, f x y = some z → op (eL el x) (eb y) = some (eL el z)) (hΓ : ∀ z, Γ.set i (some (.ow (eL el z))) = Γ' z) :
    JN Γ (mDrop (mMethL i op e)) (bindT mb fun y => optT (f x y)) Γ' := fun st g a g' hs hm => by
  obtain ⟨y, g1, m1, hm⟩ := bind_eq hm
  obtain ⟨ho', rfl⟩ := opt_eq hm
  obtain ⟨st1, h1, hs1⟩ := hb st g y g1 hs m1
  refine ⟨st1.set i (some (.ow (eL el a))), ?_, by rw [← hΓ]; exact hs1.set _⟩
  unfold mDrop mMethL mAtL
  rw [hs.get h]
  simp only [eL, bnd_some]
  rw [h1, bnd_some, hs1.get h]
  have := ho x y a ho'
  simp only [eL] at this
  simp only [eL, this, Option.map_some, bnd_some]
theorem EN.hold (h : EN Γ e ma ow ea Γ1) : ∀ st g a g', Sat Γ st → ma g = some (a, g') → ∃ st', mHold e st g = some (sOf ow (ea a), st', g') ∧ Sat Γ1 st' := fun st g a g' hs hm => by
  obtain ⟨st', h1, h2⟩ := h st g a g' hs hm
  refine ⟨st', ?_, h2⟩
  unfold mHold
  rw [h1, bnd_some]
  cases ow <;> rfl
theorem jn_par {ow2 : Bool} {Γ' : α × β → Sl} (ha : EN Γ e1 ma ow ea Γ1) (hb : EN Γ1 e2 mb ow2 eb Γ2) (hi : i < Γ2.length) (hj : j < Γ2.length) (hΓ : ∀ a : α × β, (Γ2.set j (some (sOf ow2 (eb a.2)))).set i (some (sOf ow (ea a.1))) = Γ' a) :
    JN Γ (mPar i j e1 e2) (bindT ma fun x => bindT mb fun y => pureT (x, y)) Γ' := fun st g a g' hs hm => by
  obtain ⟨x, g1, m1, hm⟩ := bind_eq hm
  obtain ⟨y, g2, m2, hm⟩ := bind_eq hm
  obtain ⟨rfl, rfl⟩ := pure_eq hm
  obtain ⟨st1, h1, hs1⟩ := ha.hold st g x g1 hs m1
  obtain ⟨st2, h2, hs2⟩ := hb.hold st1 g1 y g2 hs1 m2
  refine ⟨_, ?_, by rw [← hΓ]; exact (hs2.set _).set _⟩
  unfold mPar
  rw [h1, bnd_some, h2, bnd_some, if_pos ⟨by rw [hs2.1]; exact hi, by rw [hs2.1]; exact hj⟩]
theorem sf_sn0 {s1 : M Dk Fl} {b : β} {Γb : β → Sl} {er : ρ → D} (h : JN Γ s1 (pureT b) Γb) : JF Γ s1 (pureT (.nx b)) Γb er := sf_sn h
theorem en_callKV {u : M Dk (List D)} {F : Fn Dk} {pm : List Nat} {fa : α → List D} {ds : List D} (h : EA Γ u (pureT x) fa Γ1) (hd : permD pm (fa x) = ds) : EN Γ (mCallK pm F u) (callT F ec ds) false ec Γ1 := by
  subst hd
  exact en_callK h
/-! ### two generators, dicts made -/
end
end DL
namespace DL
open PySem PySem.Spec PyProof.Rows L2
/-! ### named encodings -/
def eDk (_ : Unit) : D := .obj 0
def schP (s : List (Str × Str) × List (Str × List Str)) : D := schE s.1 s.2
def tabsE (t : List (List (List Int))) : D := .tup (t.map tabE)
def rowsE (t : List (List Int)) : D := .tup (t.map rowE)
def drwE (t : List Trip) : D := .tup (t.map trE)
instance : Inj eDk := ⟨fun _ _ _ => rfl⟩
instance : Inj rowE := inferInstanceAs (Inj (eT D.int))
instance : Inj tabE := inferInstanceAs (Inj (eT (eT D.int)))
instance : Inj tabsE := inferInstanceAs (Inj (eT (eT (eT D.int))))
instance : Inj rowsE := inferInstanceAs (Inj (eT (eT D.int)))
instance : Inj dialE := inferInstanceAs (Inj (eP D.str D.str))
instance : Inj headE := inferInstanceAs (Inj (eP D.str (eT D.str)))
instance : Inj schP := inferInstanceAs (Inj (eP (eT (eP D.str D.str)) (eT (eP D.str (eT D.str)))))
def rtI (r : Rt) : Int × Int := (r.1, r.2)
theorem rtI_inj (a b : Rt) (h : rtI a = rtI b) : a = b := by
  unfold rtI at h
  simp only [Prod.mk.injEq] at h
  exact Prod.ext (by omega) (by omega)
instance : Inj rateE := Inj.comap (e := eP D.int D.int) rtI rtI_inj
instance : Dat rateE 1 := Dat.comap (e := eP D.int D.int) rtI rtI_inj
instance : Ky rateE 1 := Ky.comap (e := eP D.int D.int) rtI
instance : Shp rateE := ⟨.inl fun _ => rfl⟩
instance : NotN rateE := ⟨fun _ => rfl⟩
instance : Dat rowE 1 := inferInstanceAs (Dat (eT D.int) 1)
instance : Ky rowE 1 := inferInstanceAs (Ky (eT D.int) 1)
instance : Shp rowE := ⟨.inl fun _ => rfl⟩
instance : NotN rowE := ⟨fun _ => rfl⟩
instance : SetOk rowE := setOk_tp (k := 1) (fun _ => rfl) (by decide)
instance : SetOk rateE := setOk_tp (k := 1) (fun _ => rfl) (by decide)
instance : Dat rowsE 2 := inferInstanceAs (Dat (eT (eT D.int)) 2)
instance : Dat tabE 2 := inferInstanceAs (Dat (eT (eT D.int)) 2)
instance : Dat tabsE 3 := inferInstanceAs (Dat (eT (eT (eT D.int))) 3)
instance : Dat schP 4 := inferInstanceAs (Dat (eP (eT (eP D.str D.str)) (eT (eP D.str (eT D.str)))) _)
instance : Inj pairE := inferInstanceAs (Inj (eP D.str rateE))
instance : Dat pairE 2 := inferInstanceAs (Dat (eP D.str rateE) _)
instance : Ky pairE 2 := inferInstanceAs (Ky (eP D.str rateE) _)
instance : Shp pairE := ⟨.inl fun _ => rfl⟩
instance : Inj wayE := inferInstanceAs (Inj (eT pairE))
instance : Dat wayE 3 := inferInstanceAs (Dat (eT pairE) _)
instance : Ky wayE 3 := inferInstanceAs (Ky (eT pairE) _)
instance : Shp wayE := ⟨.inl fun _ => rfl⟩
instance : SetOk wayE := setOk_tp (k := 3) (fun _ => rfl) (by decide)
instance : Inj ruleE := inferInstanceAs (Inj (eT wayE))
instance : Dat ruleE 4 := inferInstanceAs (Dat (eT wayE) _)
instance : NotN ruleE := ⟨fun _ => rfl⟩
instance : Inj spE := inferInstanceAs (Inj (eP D.str D.int))
instance : Dat spE 1 := inferInstanceAs (Dat (eP D.str D.int) _)
instance : Ky spE 1 := inferInstanceAs (Ky (eP D.str D.int) _)
instance : Shp spE := ⟨.inl fun _ => rfl⟩
def trI (t : Trip) : Str × Int × Rt := (t.1.1, t.1.2, t.2)
theorem trI_inj (a b : Trip) (h : trI a = trI b) : a = b := by
  unfold trI at h
  simp only [Prod.mk.injEq] at h
  exact Prod.ext (Prod.ext h.1 h.2.1) h.2.2
instance : Inj trE := Inj.comap (e := eP3 D.str D.int rateE) trI trI_inj
instance : Dat trE 2 := Dat.comap (e := eP3 D.str D.int rateE) trI trI_inj
instance : Ky trE 2 := Ky.comap (e := eP3 D.str D.int rateE) trI
instance : Inj drwE := inferInstanceAs (Inj (eT trE))
instance : Dat drwE 3 := inferInstanceAs (Dat (eT trE) _)
theorem planE_inj : ∀ p q : Plan, planE p = planE q → p = q
  | .all t, q, h => by
    cases q with
    | all u => simp only [planE, D.tup.injEq, List.cons.injEq, D.str.injEq, and_true, true_and] at h; rw [h]
    | thin p c r => simp [planE] at h
    | two w p q => simp [planE] at h
  | .thin p c r, q, h => by
    cases q with
    | all u => simp [planE] at h
    | thin p' c' r' =>
      simp only [planE, D.tup.injEq, List.cons.injEq, D.str.injEq, and_true, true_and] at h
      rw [planE_inj p p' h.1, h.2.1, Inj.inj (e := rateE) _ _ h.2.2]
    | two w p q => simp [planE] at h
  | .two w p q, q', h => by
    cases q' with
    | all u => simp [planE] at h
    | thin p' c' r' => simp [planE] at h
    | two w' p' q' =>
      simp only [planE, D.tup.injEq, List.cons.injEq, D.str.injEq, and_true] at h
      have hw : w = w' := by cases w <;> cases w' <;> first | rfl | exact absurd h.1 (by decide)
      rw [hw, planE_inj p p' h.2.1, planE_inj q q' h.2.2]
instance : Inj planE := ⟨planE_inj⟩
def pw (w x : Str) (p : Plan) : Option Plan := if x = w then some p else none
@[simp] theorem pw_self (w : Str) (p : Plan) : pw w w p = some p := by unfold pw; rw [if_pos rfl]
end DL
namespace DL
open PySem PySem.Spec PyProof.Rows L2
section
variable {α β γ δ ρ : Type}
variable {Γ Γ1 Γ2 Γ3 : Sl} {i j k : Nat} {d : D} {ow : Bool} {e e1 e2 e3 : M Dk S} {ma : TM α} {mb : TM β} {mc : TM γ} {ea : α → D} {eb : β → D} {ec : γ → D} {ej : δ → D} {x : α} {y : β} {z : γ}
/-! ### two generators -/
variable {p p1 : Pt} {vs vs1 : List Nat} {test test1 : M Dk Bool} {elt ky vl : M Dk S} {src src1 : M Dk (List D × List S)} {Γa : α → Sl} {Γab : α → δ → Sl} {mt : α → TM Bool} {ms : α → TM (List δ)} {mt2 : α → δ → TM Bool} {me2 : α → δ → TM β} {ml : TM (List α)}
/-! ### dicts made, dicts gone through -/
variable {mk : α → TM Str} {mv : α → TM β}
def keysT (d : List (Str × α)) : Option (List Str) := if d.length ≤ sizeLine then some (d.map (·.1)) else none
theorem keysT_eq {d : List (Str × α)} (h : d.length ≤ 10000000) : keysT d = some (d.map (·.1)) := by unfold keysT; rw [if_pos (by rw [sizeLine_eq]; omega)]
theorem keys_kv (ea : α → D) (x : List (Str × α)) : (kvE (avE ea x)).map (·.1) = (x.map (·.1)).map D.str := by simp [kvE, avE, List.map_map]
variable {Γk : Str → Sl} {mtk : Str → TM Bool} {mkk : Str → TM Str} {mek : Str → TM β}
theorem isD {x : List (Str × α)} {st : Sl} (h : st[i]? = some (some (.sh (eK ea x)))) : isDSlot i st = true := by unfold isDSlot; rw [h]; rfl
theorem en_lcK {x : List (Str × α)} (h : Γ[i]? = some (some (.sh (eK ea x)))) (hw : wipeS Γ vs = Γ) (ha : ∀ a, asg p (.str a) Γ = some (Γk a)) (hb : ∀ a, wipeS (Γk a) vs = Γ) (ht : ∀ a, EB (Γk a) test (mtk a) (Γk a)) (he : ∀ a, ET (Γk a) elt (mek a) eb (Γk a)) :
    EN Γ (mLcV i p vs test elt) (bindT (optT (keysT x)) fun l => compT mtk mek l) true (eL eb) Γ := fun st g a g' hs hm => by
  obtain ⟨l, g1, m1, hm⟩ := bind_eq hm
  obtain ⟨ho, rfl⟩ := opt_eq m1
  unfold keysT at ho
  split at ho
  · rename_i hc
    cases ho
    obtain ⟨st2, h2, hs2⟩ := comp_run (ei := D.str) ha hb ht he (x.map (·.1)) [] st g a g' (by have := hs.wipe (vs := vs); rwa [hw] at this) hm
    refine ⟨_, ?_, hs2⟩
    unfold mLcV
    rw [if_pos (isD (hs.get h))]
    unfold mLcK mTake mVar
    rw [hs.get h]
    simp only [bnd_some, take, Option.map_some, eK]
    rw [if_pos (by rw [kvE_len, avE, List.length_map]; exact hc), keys_kv, h2, List.nil_append]
    rfl
  · cases ho
variable {body : M Dk Fl} {Γb : β → Sl} {Γkb : Str → β → Sl} {er : ρ → D}
end
end DL
namespace DL
open PySem PySem.Spec PyProof.Rows L2
section
variable {α β γ δ ρ κ : Type}
variable {Γ Γ1 Γ2 Γ3 : Sl} {i j k m : Nat} {d : D} {ow : Bool} {e e1 e2 e3 : M Dk S} {ma : TM α} {mb : TM β} {ea : α → D} {eb : β → D} {ek : κ → D} {ev : β → D}
/-! ### dicts with tuples as keys -/
noncomputable def gput (l : List (κ × β)) (k : κ) (v : β) : List (κ × β) := if (l.any fun p => eqB p.1 k) = true then l.map (fun p => if eqB p.1 k = true then (p.1, v) else p) else l ++ [(k, v)]
theorem gput_keys {l : List (κ × β)} {k : κ} {v : β} {x : κ} : x ∈ (gput l k v).map (·.1) ↔ x = k ∨ x ∈ l.map (·.1) := by
  unfold gput
  split
  · rename_i h
    rw [List.any_eq_true] at h
    obtain ⟨p, hp, hk⟩ := h
    rw [eqB_iff] at hk
    rw [List.map_map]
    have : l.map ((fun p : κ × β => p.1) ∘ fun p => if eqB p.1 k = true then (p.1, v) else p) = l.map (·.1) := List.map_congr_left fun q _ => by
      simp only [Function.comp]; split <;> rfl
    rw [this]
    exact ⟨.inr, fun h => h.elim (fun e => e ▸ hk ▸ List.mem_map_of_mem hp) id⟩
  · rw [List.map_append, List.mem_append]
    simp [or_comm]
theorem gput_len (l : List (κ × β)) (k : κ) (v : β) : (gput l k v).length ≤ l.length + 1 := by
  unfold gput; split <;> simp
theorem gput_nodup {l : List (κ × β)} {k : κ} {v : β} (h : (l.map (·.1)).Nodup) : ((gput l k v).map (·.1)).Nodup := by
  unfold gput
  split
  · rw [List.map_map]
    have : l.map ((fun p : κ × β => p.1) ∘ fun p => if eqB p.1 k = true then (p.1, v) else p) = l.map (·.1) := List.map_congr_left fun q _ => by
      simp only [Function.comp]; split <;> rfl
    rw [this]; exact h
  · rename_i hn
    rw [List.map_append, List.nodup_append]
    refine ⟨h, by simp, fun a ha b hb e => hn ?_⟩
    simp only [List.map_cons, List.map_nil, List.mem_singleton] at hb
    rw [hb] at e
    obtain ⟨p, hp, hpk⟩ := List.mem_map.mp ha
    exact List.any_eq_true.mpr ⟨p, hp, by rw [eqB_iff, hpk, e]⟩
def eDn (ek : κ → D) (ev : β → D) : List (κ × β) → D
  | [] => .dct []
  | p :: l => .dcn ((p :: l).map fun p => (ek p.1, ev p.2))
theorem nD_eDn (l : List (κ × β)) : nD (eDn ek ev l) = some (l.map fun p => (ek p.1, ev p.2)) := by
  cases l <;> rfl
theorem nEq_ky [Ky ek k] [Inj ek] (a b : κ) : nEq (ek a) (ek b) = eqB a b := by
  obtain ⟨n1, h1, _⟩ := Ky.nk (e := ek) a
  obtain ⟨n2, h2, _⟩ := Ky.nk (e := ek) b
  unfold nEq
  rw [h1, h2, Bool.eq_iff_iff, eqB_iff, decide_eq_true_eq]
  constructor
  · intro h
    rw [← h] at h2
    exact Inj.inj _ _ (nk_inj _ _ _ h1 h2)
  · intro h
    rw [h, h2] at h1
    exact (Option.some.inj h1).symm
theorem nput_ky [Ky ek k] [Inj ek] (l : List (κ × β)) (a : κ) (v : β) : nput (l.map fun p => (ek p.1, ev p.2)) (ek a) (ev v) = (gput l a v).map fun p => (ek p.1, ev p.2) := by
  unfold nput gput
  have e : ((l.map fun p => (ek p.1, ev p.2)).any fun p => nEq p.1 (ek a)) = l.any fun p => eqB p.1 a := by
    rw [List.any_map]
    congr 1
    funext p
    simp only [Function.comp, nEq_ky]
  rw [e]
  split
  · rw [List.map_map, List.map_map]
    refine List.map_congr_left fun p _ => ?_
    simp only [Function.comp, nEq_ky]
    split <;> rfl
  · simp
theorem en_dnewN (ed : List (κ × β) → D) (x : List (κ × β)) (h : ed x = .dct []) : EN Γ mDNew (pureT x) true ed Γ := fun st g a g' hs hm => by
  obtain ⟨rfl, rfl⟩ := pure_eq hm
  exact ⟨st, by rw [h]; rfl, hs⟩
class Tpk (e : κ → D) : Prop where
  tp : ∀ a, ∃ ds, e a = .tup ds
instance {e : α → D} : Tpk (eT e) := ⟨fun _ => ⟨_, rfl⟩⟩
instance {e : α → D} {f : β → D} : Tpk (eP e f) := ⟨fun _ => ⟨_, rfl⟩⟩
instance : Tpk spE := ⟨fun _ => ⟨_, rfl⟩⟩
instance : Tpk rowE := ⟨fun _ => ⟨_, rfl⟩⟩
theorem okNK_ky [Ky ek k] [Tpk ek] (a : κ) (hk : k ≤ 8) : okNK (ek a) = true := by
  obtain ⟨n1, h1, h2⟩ := Ky.nk (e := ek) a
  obtain ⟨ds, h3⟩ := Tpk.tp (e := ek) a
  rw [h3] at h1 ⊢
  unfold okNK
  rw [h1]
  exact decide_eq_true (by omega)
@[irreducible] noncomputable def gputT (l : List (κ × β)) (k : κ) (v : β) : Option (List (κ × β)) := if l.length < sizeLine then some (gput l k v) else none
theorem gputT_eq {l : List (κ × β)} {k : κ} {v : β} (h : l.length ≤ 10000000) : gputT l k v = some (gput l k v) := by unfold gputT; rw [if_pos (by rw [sizeLine_eq]; omega)]
theorem gput_cons (l : List (κ × β)) (k : κ) (v : β) : eDn ek ev (gput l k v) = .dcn ((gput l k v).map fun p => (ek p.1, ev p.2)) := by
  cases h : gput l k v with
  | nil =>
    exfalso
    have : k ∈ (gput l k v).map (·.1) := gput_keys.mpr (.inl rfl)
    rw [h] at this
    cases this
  | cons p q => rfl
theorem jn_dputN [Ky ek m] [Inj ek] [Tpk ek] {mk : TM κ} {x : List (κ × β)} {Γ' : List (κ × β) → Sl} (h : Γ[i]? = some (some (.ow (eDn ek ev x)))) (hv : ET Γ e1 mb ev Γ) (hk : EP Γ e2 mk ek Γ) (hΓ : ∀ z, Γ.set i (some (.ow (eDn ek ev z))) = Γ' z) (hm8 : m ≤ 8 := by decide) :
    JN Γ (mDPutN i e2 e1) (bindT mb fun v => bindT mk fun k => optT (gputT x k v)) Γ' := fun st g a g' hs hm => by
  obtain ⟨v, g1, m1, hm⟩ := bind_eq hm
  obtain ⟨k, g2, m2, hm⟩ := bind_eq hm
  obtain ⟨ho, rfl⟩ := opt_eq hm
  obtain ⟨st1, h1, hs1⟩ := hv st g v g1 hs m1
  obtain ⟨s2, st2, h2, hs2, p2⟩ := hk st1 g1 k g2 hs1 m2
  refine ⟨st2.set i (some (.ow (eDn ek ev a))), ?_, by rw [← hΓ]; exact hs2.set _⟩
  unfold gputT at ho
  split at ho
  · rename_i hc
    cases ho
    unfold mDPutN mAt
    rw [h1, bnd_some, hs1.get h]
    simp only [bnd_some]
    rw [h2, bnd_some, p2 _ hs2, hs2.get h]
    simp only [Option.bind_some, nD_eDn]
    rw [if_pos ⟨okNK_ky k hm8, by rw [List.length_map]; exact hc⟩, nput_ky, gput_cons]
  · cases ho
end
end DL
namespace DL
open PySem PySem.Spec PyProof.Rows L2
section
variable {α β γ δ ρ κ : Type}
variable {Γ Γ1 Γ2 Γ3 : Sl} {i j k m : Nat} {d : D} {ow : Bool} {e e1 e2 e3 : M Dk S} {ma : TM α} {mb : TM β} {mc : TM γ} {ea : α → D} {eb : β → D} {ec : γ → D} {x : α} {y : β} {z : γ}
theorem en_opP {op : D → D → Option S} {f : α → β → Option γ} (ha : EP Γ e1 (pureT x) ea Γ1) (hb : EP Γ1 e2 (pureT y) eb Γ1) (ho : ∀ x y z, f x y = some z → op (ea x) (eb y) = some (sOf ow (ec z))) : EN Γ (mOp op e1 e2) (optT (f x y)) ow ec Γ1 := en_op ha hb ho
theorem en_unP {un : D → Option S} {f : α → Option γ} (ha : EP Γ e1 (pureT x) ea Γ1) (ho : ∀ x z, f x = some z → un (ea x) = some (sOf ow (ec z))) : EN Γ (mUn un e1) (optT (f x)) ow ec Γ1 := en_un ha ho
theorem en_convV (ha : EN Γ e (pureT x) ow ea Γ1) (hc : ec z = ea x) : EN Γ e (pureT z) ow ec Γ1 := fun st g a g' hs hm => by
  obtain ⟨rfl, rfl⟩ := pure_eq hm
  obtain ⟨st', h1, h2⟩ := ha st g x g hs rfl
  exact ⟨st', by rw [h1, hc], h2⟩
theorem en_dictZipV {l : List Str} {r : List β} (h1 : ET Γ e1 (pureT l) (eT D.str) Γ1) (h2 : ET Γ1 e2 (pureT r) (eT eb) Γ2) : EN Γ (mDictZip (mCons e1 (mCons e2 mNil))) (pureT (mkd (l.zip r))) true (eK eb) Γ2 := en_dictZip h1 h2
theorem en_get2V {l : List (Str × α)} {c : Str} (h1 : EP Γ e1 (pureT l) (eK ea) Γ) (h2 : EP Γ e2 (pureT c) D.str Γ) (h3 : ET Γ e3 (pureT x) ea Γ) : EN Γ (mGet2 e1 e2 e3) (pureT ((aget l c).getD x)) false ea Γ := en_get2 h1 h2 h3
theorem ei_zipTV {l : List α} {r : List β} (h1 : ET Γ e1 (pureT l) (eT ea) Γ1) (h2 : ET Γ1 e2 (pureT r) (eT eb) Γ2) : EI Γ (srcZip (mCons e1 (mCons e2 mNil))) (pureT (l.zip r)) (eP ea eb) Γ2 := ei_zipT h1 h2
theorem ei_range1V {n : Int} (h : ET Γ e (pureT n) D.int Γ1) : EI Γ (srcRange1 e) (optT (rngT n)) D.int Γ1 := ei_range1 h
variable {src : M Dk (List D × List S)} {p : Pt} {vs : List Nat} {test : M Dk Bool} {elt : M Dk S} {Γa : α → Sl} {mt : α → TM Bool} {me : α → TM β} {l : List α}
theorem en_lcS (hi : EI Γ src (pureT l) ea Γ1) (hw : wipeS Γ1 vs = Γ1) (ha : ∀ a, asg p (ea a) Γ1 = some (Γa a)) (hb : ∀ a, wipeS (Γa a) vs = Γ1) (ht : ∀ a, EB (Γa a) test (mt a) (Γa a)) (he : ∀ a, ET (Γa a) elt (me a) eb (Γa a)) : EN Γ (mLc src p vs test elt) (compT mt me l) true (eL eb) Γ1 := en_lc hi hw ha hb ht he
theorem en_mapS (hi : EI Γ src (pureT l) ea Γ1) (hw : wipeS Γ1 vs = Γ1) (ha : ∀ a, asg p (ea a) Γ1 = some (Γa a)) (hb : ∀ a, wipeS (Γa a) vs = Γ1) (he : ∀ a, ET (Γa a) elt (me a) eb (Γa a)) : EN Γ (mLc src p vs mYes elt) (mapT me l) true (eL eb) Γ1 := en_map hi hw ha hb he
variable {body : M Dk Fl} {Γb : β → Sl} {Γab : α → β → Sl} {er : ρ → D}
theorem sn_forV {mb : α → β → TM β} {b0 : β} (hi : EI Γ src (pureT l) ea Γ1) (h0 : Wk (Γb b0) Γ1) (ha : ∀ a b, asg p (ea a) (Γb b) = some (Γab a b)) (hb : ∀ a b, JN (Γab a b) body (mb a b) Γb) : JN Γ (mFor src p body) (forT mb l b0) Γb := sn_for hi h0 ha hb
theorem sf_forV {mb : α → β → TM (Flo β ρ)} {b0 : β} (hi : EI Γ src (pureT l) ea Γ1) (h0 : Wk (Γb b0) Γ1) (ha : ∀ a b, asg p (ea a) (Γb b) = some (Γab a b)) (hb : ∀ a b, JF (Γab a b) body (mb a b) Γb er) : JF Γ (mFor src p body) (forF mb l b0) Γb er := sf_for hi h0 ha hb
end
end DL
namespace DL
open PySem PySem.Spec PyProof.Rows L2
/-! ### what the shared functions tell, typed -/
section
variable {dl : List (Str × Str)} {hs : List (Str × List Str)} {fr : List Str} {g : Dk} {n : Nat}
theorem c_lcols (hh : Heads dl hs) : callT F__law_columns (eT D.str) [schP (dl, hs), eT D.str fr] = pureT (colsL hs fr) := callT_pure fun g => lawColumns_eq hh
theorem c_full (hd : Dials dl) (hh : Heads dl hs) {m : Nat} {ts : List (List (List Int))} (ht : Tabs m hs ts) (hm : m ≤ 6) (hf : Frame hs fr) : callT F_full_rows rowsE [schP (dl, hs), tabsE ts, eT D.str fr] = pureT (fullR hs ts fr) := callT_pure fun g => fullRows_eq hd hh ht hm hf.sub hf.few
theorem c_part {fr' : List Str} {r : List Int} (hd : Dials dl) (hh : Heads dl hs) (hf : Frame hs fr) (hf' : Frame hs fr') (hsub : ∀ x ∈ fr', x ∈ fr) (hl : (colsL hs fr).length = r.length) : callT F_part_of rowE [schP (dl, hs), rowE r, eT D.str fr, eT D.str fr'] = pureT (partR hs fr r fr') := callT_pure fun g => partOf_eq hd hh hf hf' hsub hl
/-! drawn -/
theorem w_next {m : Int} {u : Unit} {Q : Int → Dk → Prop} (ok : Ok (n + 1) g) (hm : 0 < m) (hl : m ≤ 2 ^ 63) (h : ∀ r g', 0 ≤ r → r < m → Ok n g' → Q r g') : wpT (callT F__law_next D.int [eDk u, D.int m]) g Q := by
  obtain ⟨r, g', e, h0, h1, ok'⟩ := next_ok ok hm hl
  exact callT_wp ⟨r, g', e, h r g' h0 h1 ok'⟩
theorem w_scheme {u : Unit} {Q : List (Str × Str) × List (Str × List Str) → Dk → Prop} (ok : Ok (n + 60) g) (h : ∀ dl hs g', Dials dl → Heads dl hs → Ok n g' → Q (dl, hs) g') : wpT (callT F__law_scheme schP [eDk u]) g Q := by
  obtain ⟨dl, hs, g', e, h1, h2, ok'⟩ := scheme_ok ok
  exact callT_wp ⟨(dl, hs), g', e, h dl hs g' h1 h2 ok'⟩
theorem w_tables {m : Nat} {u : Unit} {Q : List (List (List Int)) → Dk → Prop} (hh : Heads dl hs) (hm : m ≤ 20) (ok : Ok (n + 1 + 4 * (1 + 3 * m)) g) (h : ∀ ts g', Tabs m hs ts → Ok n g' → Q ts g') : wpT (callT F__law_tables tabsE [eDk u, schP (dl, hs), D.int m]) g Q := by
  obtain ⟨ts, g', e, h1, ok'⟩ := tables_ok hh hm ok
  exact callT_wp ⟨ts, g', e, h ts g' h1 ok'⟩
theorem w_anyFrame {u : Unit} {Q : List Str → Dk → Prop} (hh : Heads dl hs) (ok : Ok (n + 7) g) (h : ∀ fr g', Frame hs fr → Ok n g' → Q fr g') : wpT (callT F__law_any_frame (eT D.str) [eDk u, schP (dl, hs)]) g Q := by
  obtain ⟨fr, g', e, h1, ok'⟩ := anyFrame_ok hh ok
  exact callT_wp ⟨fr, g', e, h fr g' h1 ok'⟩
end
/-! ### plain: dicts of texts -/
theorem aput_new {α : Type} {l : List (Str × α)} {k : Str} {v : α} (h : k ∉ l.map (·.1)) : aput l k v = l ++ [(k, v)] := by
  unfold aput
  rw [if_neg]
  intro ha
  rw [List.any_eq_true] at ha
  obtain ⟨p, hp, e⟩ := ha
  exact h (by rw [← of_decide_eq_true e]; exact List.mem_map_of_mem (f := fun q : Str × α => q.1) hp)
theorem mkd_app {α : Type} : ∀ (l acc : List (Str × α)), ((acc ++ l).map (·.1)).Nodup → l.foldl (fun acc p => aput acc p.1 p.2) acc = acc ++ l
  | [], acc, _ => by simp
  | p :: l, acc, h => by
    rw [List.foldl_cons, aput_new, mkd_app l (acc ++ [(p.1, p.2)]) (by simpa using h)]
    · simp
    · intro hm
      rw [List.map_append, List.nodup_append] at h
      exact h.2.2 _ hm _ (by simp) rfl
theorem mkd_nodup {α : Type} {l : List (Str × α)} (h : (l.map (·.1)).Nodup) : mkd l = l := by
  unfold mkd
  rw [mkd_app l [] (by simpa using h)]; rfl
theorem zip_keys {cs : List Str} {r : List Int} (h : cs.length = r.length) : (cs.zip r).map (·.1) = cs := by
  rw [List.map_fst_zip]; omega
theorem mkd_zip {cs : List Str} {r : List Int} (hn : cs.Nodup) (h : cs.length = r.length) : mkd (cs.zip r) = cs.zip r := mkd_nodup (by rw [zip_keys h]; exact hn)
theorem aget_zip {cs : List Str} {r : List Int} {c : Str} (h : cs.length = r.length) (hc : c ∈ cs) : aget (cs.zip r) c = some (kat cs r c) := (kat_get h hc).2
theorem forF_any {α β ρ : Type} {mb : α → β → TM (Flo β ρ)} {f : α → Bool} {r : ρ} {b : β} : ∀ {l : List α}, (∀ a ∈ l, mb a b = pureT (if f a = true then .rt r else .nx b)) → forF mb l b = pureT (if l.any f = true then .rt r else .nx b)
  | [], _ => rfl
  | a :: l, h => by
    unfold forF
    rw [h a List.mem_cons_self]
    cases e : f a with
    | true => simp [e]
    | false =>
      have ih := forF_any (l := l) fun b hb => h b (List.mem_cons_of_mem _ hb)
      simp only [Bool.false_eq_true, if_false, bindFF_nx, ih, List.any_cons, e, Bool.false_or]
end DL
namespace DL
open PySem PySem.Spec PyProof.Rows L2
/-! ### rows that are let -/
end DL
namespace DL
open PySem PySem.Spec PyProof.Rows L2
end DL
namespace DL
open PySem PySem.Spec PyProof.Rows L2
/-! ### wpT, as rules for simp -/
section
variable {α β γ ρ : Type} {g : Dk}
theorem wp_bind {m : TM α} {k : α → TM β} {Q : β → Dk → Prop} : wpT (bindT m k) g Q ↔ wpT m g fun a g => wpT (k a) g Q := by
  constructor
  · rintro ⟨b, g', e, q⟩
    obtain ⟨a, g1, e1, e2⟩ := bind_eq e
    exact ⟨a, g1, e1, b, g', e2, q⟩
  · exact wpT_bind
theorem wp_pureI {a : α} {Q : α → Dk → Prop} : wpT (pureT a) g Q ↔ Q a g := ⟨fun ⟨_, _, e, q⟩ => by obtain ⟨rfl, rfl⟩ := pure_eq e; exact q, wpT_pure⟩
theorem wp_bindF {m : TM (Flo β ρ)} {k : β → TM ρ} {Q : ρ → Dk → Prop} : wpT (bindF m k) g Q ↔ wpT m g fun r g => match r with | .nx b => wpT (k b) g Q | .rt r => Q r g := by
  unfold bindF
  rw [wp_bind]
  constructor
  · intro h; refine wpT_mono h fun r g1 h1 => ?_; cases r with
    | nx b => exact h1
    | rt r => exact wp_pureI.mp h1
  · intro h; refine wpT_mono h fun r g1 h1 => ?_; cases r with
    | nx b => exact h1
    | rt r => exact wp_pureI.mpr h1
theorem wp_bindFF {m : TM (Flo β ρ)} {k : β → TM (Flo γ ρ)} {Q : Flo γ ρ → Dk → Prop} : wpT (bindFF m k) g Q ↔ wpT m g fun r g => match r with | .nx b => wpT (k b) g Q | .rt r => Q (.rt r) g := by
  unfold bindFF
  rw [wp_bind]
  constructor
  · intro h; refine wpT_mono h fun r g1 h1 => ?_; cases r with
    | nx b => exact h1
    | rt r => exact wp_pureI.mp h1
  · intro h; refine wpT_mono h fun r g1 h1 => ?_; cases r with
    | nx b => exact h1
    | rt r => exact wp_pureI.mpr h1
/-- a loop that draws nothing, by an invariant -/
theorem forT_inv {mb : α → β → TM β} (J : Nat → β → Prop) : ∀ (l : List α) (k : Nat) (b : β), J k b → (∀ j a b, l[j]? = some a → J (k + j) b → ∃ b', mb a b = pureT b' ∧ J (k + j + 1) b') → ∃ b', forT mb l b = pureT b' ∧ J (k + l.length) b'
  | [], k, b, h0, _ => ⟨b, rfl, h0⟩
  | a :: l, k, b, h0, hs => by
    obtain ⟨b1, e1, h1⟩ := hs 0 a b rfl h0
    obtain ⟨b2, e2, h2⟩ := forT_inv J l (k + 1) b1 h1 fun j a b e h => by
      obtain ⟨b', e', h'⟩ := hs (j + 1) a b e (by rw [show k + (j + 1) = k + 1 + j by omega]; exact h)
      exact ⟨b', e', by rw [show k + 1 + j + 1 = k + (j + 1) + 1 by omega]; exact h'⟩
    refine ⟨b2, ?_, by rw [List.length_cons, show k + (l.length + 1) = k + 1 + l.length by omega]; exact h2⟩
    unfold forT
    rw [e1, bindT_pure, e2]
end
theorem rngT_eq {n : Nat} (h : n ≤ 10000000) : rngT (n : Int) = some ((List.range n).map fun (i : Nat) => (i : Int)) := by
  unfold rngT
  rw [if_pos ⟨by omega, by omega, by rw [sizeLine_eq]; omega⟩, Int.toNat_natCast]
  unfold rngI
  simp
theorem rngT_lit (i : Int) (n : Nat) (hi : i = (n : Int) := by rfl) (h : n ≤ 10000000 := by decide) : rngT i = some ((List.range n).map fun (j : Nat) => (j : Int)) := by rw [hi]; exact rngT_eq h
/-! ### a number that is drawn -/
/-- the draw of some spots -/
theorem srtE_asc {α : Type} {e : α → D} {k : Nat} [Ky e k] [Inj e] {l : List α} (h : l.Nodup) : Asc ((srtE e l).map e) := by
  have hs : (srtE e l).Pairwise fun a b => leD (e a) (e b) = true := by
    unfold srtE
    exact List.pairwise_mergeSort (le := fun a b => leD (e a) (e b)) (fun a b c h1 h2 => leD_trans h1 h2) (fun a b => leD_total (e a) (e b)) l
  have hn : (srtE e l).Nodup := (srtE_perm e l).nodup_iff.mpr h
  unfold Asc
  rw [List.pairwise_map]
  refine (hs.and hn).imp fun {a b} ⟨h1, h2⟩ => ?_
  cases e : ltD (e a) (e b) with
  | true => rfl
  | false =>
    have h3 : ltD (‹α → D› b) (‹α → D› a) = false := by simpa [leD] using h1
    exact absurd (Ky.tot e h3) h2
end DL
namespace DL
open PySem PySem.Spec PyProof.Rows L2
/-- spots that are found -/
structure Spts (dl : List (Str × Str)) (m : Nat) (l : List (Spot × Bool)) : Prop where
  nd : (l.map (·.1)).Nodup
  sp : ∀ s ∈ l.map (·.1), s.1 ∈ dl.map (·.2) ∧ 0 ≤ s.2 ∧ s.2 ≤ 99
  len : l.length ≤ m
theorem Spts.put {dl : List (Str × Str)} {m : Nat} {l : List (Spot × Bool)} (h : Spts dl m l) {s : Spot} {b : Bool} (h1 : s.1 ∈ dl.map (·.2)) (h2 : 0 ≤ s.2 ∧ s.2 ≤ 99) : Spts dl (m + 1) (gput l s b) :=
  ⟨gput_nodup h.nd, fun x hx => by
    rcases gput_keys.mp hx with rfl | hx
    · exact ⟨h1, h2⟩
    · exact h.sp x hx, by have := gput_len l s b; have := h.len; omega⟩
end DL
namespace DL
open PySem PySem.Spec PyProof.Rows L2
theorem Fi.repr_list {N k : Nat} {l : List D} (h : ∀ d ∈ l, Fi N k d) (hl : l.length ≤ 10) (hN : N ≤ 900000) (hk : k ≤ 90) : l1 opRepr (eL eA l) = some (.str (D.lst l).py.shown) := by
  have e : eL eA l = .lst l := by unfold eL; congr 1; exact (List.map_congr_left fun _ _ => rfl).trans (List.map_id l)
  have f := Fi.repr (n := 10 * (N + 2) + 3) (k := k + 1) (Fi.list_lst (B := N) (L := 10) (k := k) h hl (Nat.le_refl _)) (by omega) (by omega)
  rw [e]
  unfold l1
  rw [f]
end DL
namespace DL
open PySem PySem.Spec PyProof.Rows L2
/-! ### rules let what plans show -/
end DL
namespace DL
open PySem PySem.Spec PyProof.Rows L2
section
variable {α β γ δ ρ κ : Type}
variable {Γ Γ1 Γ2 Γ3 : Sl} {i j k m : Nat} {d : D} {ow : Bool} {e e1 e2 e3 : M Dk S} {ma : TM α} {mb : TM β} {mc : TM γ} {ea : α → D} {eb : β → D} {ec : γ → D} {x : α} {y : β} {z : γ}
/-! ### d.update(e), l.insert(i, x) -/
@[irreducible] def updT (d e : List (Str × α)) : Option (List (Str × α)) := if d.length + e.length ≤ sizeLine then some (e.foldl (fun acc p => aput acc p.1 p.2) d) else none
theorem updT_eq {d e : List (Str × α)} (h : d.length + e.length ≤ 10000000) : updT d e = some (e.foldl (fun acc p => aput acc p.1 p.2) d) := by unfold updT; rw [if_pos (by rw [sizeLine_eq]; omega)]
theorem kv_map (ea : α → D) (l : List (Str × α)) : kvE (avE ea l) = l.map fun p => (D.str p.1, ea p.2) := by simp [kvE, avE, List.map_map]
theorem jn_upd {x : List (Str × α)} {md : TM (List (Str × α))} {Γ' : List (Str × α) → Sl} (h : Γ[i]? = some (some (.ow (eK ea x)))) (hb : ET Γ e md (eK ea) Γ) (hΓ : ∀ z, Γ.set i (some (.ow (eK ea z))) = Γ' z) :
    JN Γ (mDrop (mMethD i opUpd e)) (bindT md fun y => optT (updT x y)) Γ' := fun st g a g' hs hm => by
  obtain ⟨y, g1, m1, hm⟩ := bind_eq hm
  obtain ⟨ho, rfl⟩ := opt_eq hm
  obtain ⟨st1, h1, hs1⟩ := hb st g y g1 hs m1
  refine ⟨st1.set i (some (.ow (eK ea a))), ?_, by rw [← hΓ]; exact hs1.set _⟩
  unfold updT at ho
  split at ho
  · rename_i hc
    cases ho
    unfold mDrop mMethD mAtD
    rw [hs.get h]
    simp only [eK, bnd_some]
    rw [h1, bnd_some, hs1.get h]
    simp only [eK, opUpd, kvE_len, avE, List.length_map, hc, if_true, Option.map_some, bnd_some]
    have := merge_mkd ea y x
    rw [← kv_map] at this
    simp only [avE] at this
    unfold dupd
    rw [this]
  · cases ho
theorem ei_enumT {ml : TM (List α)} (h : ET Γ e ml (eT ea) Γ1) : EI Γ (srcEnumT e) (bindT ml fun l => pureT (enumI l)) (eP D.int ea) Γ1 := fun st g a g' hs hm => by
  obtain ⟨l, g1, m1, hm⟩ := bind_eq hm
  obtain ⟨rfl, rfl⟩ := pure_eq hm
  obtain ⟨st1, h3, h4⟩ := h st g l g1 hs m1
  refine ⟨[.sh (eT ea l)], st1, ?_, h4⟩
  unfold srcEnumT
  rw [h3, bnd_some]
  have e : enumD (l.map ea) = (enumI l).map (eP D.int ea) := by
    unfold enumI enumD
    refine List.ext_getElem? fun i => ?_
    simp only [List.getElem?_mapIdx, List.getElem?_map]
    cases l[i]? <;> rfl
  rw [← e]
  rfl
theorem ei_enumTV {l : List α} (h : ET Γ e (pureT l) (eT ea) Γ1) : EI Γ (srcEnumT e) (pureT (enumI l)) (eP D.int ea) Γ1 := ei_enumT h
theorem jn_meth2 {op : D → D → Option D} {el : α → D} {x : List α} {f : List α → β → Option (List α)} {Γ' : List α → Sl} (h0 : Γ[i]? = some (some (.ow (eL el x)))) (h : Γ1[i]? = some (some (.ow (eL el x)))) (hb : ET Γ e mb eb Γ1) (ho : ∀ x y z, f x y = some z → op (eL el x) (eb y) = some (eL el z)) (hΓ : ∀ z, Γ1.set i (some (.ow (eL el z))) = Γ' z) :
    JN Γ (mDrop (mMethL i op e)) (bindT mb fun y => optT (f x y)) Γ' := fun st g a g' hs hm => by
  obtain ⟨y, g1, m1, hm⟩ := bind_eq hm
  obtain ⟨ho', rfl⟩ := opt_eq hm
  obtain ⟨st1, h1, hs1⟩ := hb st g y g1 hs m1
  refine ⟨st1.set i (some (.ow (eL el a))), ?_, by rw [← hΓ]; exact hs1.set _⟩
  unfold mDrop mMethL mAtL
  rw [hs.get h0]
  simp only [eL, bnd_some]
  rw [h1, bnd_some, hs1.get h]
  have := ho x y a ho'
  simp only [eL] at this
  simp only [eL, this, Option.map_some, bnd_some]
theorem ET.wk (h : ET Γ e ma ea Γ1) (hw : Wk Γ2 Γ1) : ET Γ e ma ea Γ2 := fun st g a g' hs hm => by
  obtain ⟨st', h1, h2⟩ := h st g a g' hs hm
  exact ⟨st', h1, hw.sat.trans h2⟩
end
end DL
namespace DL
open PySem PySem.Spec PyProof.Rows L2
noncomputable def C__law_full_0 : M Dk S := (mLcV 7 (.nm 12) [12] (mTest (mOp opNe (mOp opIx (mVar 11) (mVar 12)) (mOp opIx (mVar 7) (mVar 12)))) (mVar 12))
noncomputable def L__law_full_1 : M Dk Fl := (mSeq (mSet 11 (mUn opDict (mVar 7))) (mSeq (mDrop (mMethD 11 opUpd (mDictZip (mCons (mVar 9) (mCons (mVar 10) mNil))))) (mIf (mTest (mOp opEq C__law_full_0 (mLst mNil))) (mDrop (mMethL 6 opApp (mVar 11))) mNext)))
noncomputable def L__law_full_2 : M Dk Fl := (mFor (srcSeq (mOp opIx (mVar 1) (mVar 5))) (.nm 10) L__law_full_1)
noncomputable def L__law_full_3 : M Dk Fl := (mSeq (mSet 6 (mLst mNil)) (mSeq (mFor (srcSeq (mVar 4)) (.nm 7) L__law_full_2) (mSet 4 (mShr (mIf (mTest (mOp (opIn false) (mVar 8) (mVar 2))) (mVar 6) (mVar 4))))))
noncomputable def C__law_full_4 : M Dk S := (mLc (srcSeq (mVar 3)) (.nm 12) [12] mYes (mOp opIx (mVar 7) (mVar 12)))
noncomputable def C__law_full_5 : M Dk S := (mLc (srcSeq (mVar 4)) (.nm 7) [7] mYes (mUn opTuple C__law_full_4))
noncomputable def B__law_full : M Dk Fl := (mSeq (mPar 3 4 (mCall F__law_columns (mCons (mVar 0) (mCons (mVar 2) mNil))) (mShr (mLst (mCons mDNew mNil)))) (mSeq (mFor (srcEnumT (mOp opIx (mVar 0) (mC (.int 1)))) (.tp [(.nm 5), (.tp [(.nm 8), (.nm 9)])]) L__law_full_3) (mRet (mUn opTuple (mUn opSort C__law_full_5)))))
noncomputable def F__law_full : Fn Dk := mFn 3 13 B__law_full
noncomputable def T__law_full (p_law_plot : List (Str × Str) × List (Str × List Str)) (p_law_stock : List (List (List Int))) (p_law_frame_here : List Str) : TM (List (List Int)) :=
  (bindT (bindT (callT F__law_columns (eT D.str) [schP p_law_plot, eT D.str p_law_frame_here]) fun x2 => bindT (pureT ([[]] : List (List (Str × Int)))) fun y3 => pureT (x2, y3)) fun v1 => (bindT (forT (fun i7 b6 => (bindT (pureT ([] : List (List (Str × Int)))) fun v8 => (bindT (forT (fun i11 b10 => (bindT (bindT (optT (atI p_law_stock i7.1)) fun l36 => forT (fun i16 b15 => (bindT (pureT i11) fun v17 => (bindT (bindT (pureT (mkd (i7.2.2.zip i16) : List (Str × Int))) fun x21 => optT (updT v17 x21)) fun v18 => (bindT (bindT (bindT (bindT (optT (keysT i11)) fun l30 => compT (fun i23 => (bindT (optT (aget v18 i23)) fun x28 => bindT (optT (aget i11 i23)) fun y29 => optT (some (!eqB x28 y29)))) (fun i23 => (pureT i23)) l30) fun x31 => bindT (pureT ([] : List Str)) fun y32 => optT (some (eqB x31 y32))) fun b35 => if b35 = true then (bindT (bindT (pureT v18) fun x34 => optT (appT b15 x34)) fun v33 => pureT v33) else (pureT b15)) fun v22 => pureT v22)))) l36 b10) fun v12 => pureT v12)) b6 v8) fun v9 => (bindT (bindT (pureT (inB i7.2.1 p_law_frame_here : Bool)) fun b38 => if b38 = true then (pureT v9) else (pureT b6)) fun v37 => pureT v37)))) (enumI p_law_plot.2) v1.2) fun v4 => (bindT (bindT (mapT (fun i39 => (bindT (mapT (fun i40 => (optT (aget i39 i40))) v1.1) fun x43 => optT (some (x43)))) v4) fun x44 => optT (some (srtE (eT D.int) x44))) fun x45 => optT (some (x45)))))
theorem S__law_full (p_law_plot : List (Str × Str) × List (Str × List Str)) (p_law_stock : List (List (List Int))) (p_law_frame_here : List Str) {g g' : Dk} {r : List (List Int)} (h : T__law_full p_law_plot p_law_stock p_law_frame_here g = some (r, g')) : F__law_full [schP p_law_plot, tabsE p_law_stock, eT D.str p_law_frame_here] g = some (rowsE r, g') := by
  have hb : JB [some (.sh (schP p_law_plot)), some (.sh (tabsE p_law_stock)), some (.sh (eT D.str p_law_frame_here)), none, none, none, none, none, none, none, none, none, none] B__law_full (T__law_full p_law_plot p_law_stock p_law_frame_here) rowsE := by
    unfold T__law_full B__law_full
    exact (sb_seq (jn_par (Γ2 := [some (.sh (schP p_law_plot)), some (.sh (tabsE p_law_stock)), some (.sh (eT D.str p_law_frame_here)), none, none, none, none, none, none, none, none, none, none]) (ea := eT D.str) (eb := eL (eK D.int)) (Γ' := fun v1 => [some (.sh (schP p_law_plot)), some (.sh (tabsE p_law_stock)), some (.sh (eT D.str p_law_frame_here)), some (.sh (eT D.str v1.1)), some (.sh (eL (eK D.int) v1.2)), none, none, none, none, none, none, none, none]) (en_callV (ea_consV (EN.tk (en_var schP p_law_plot rfl)) (ea_consV (EN.tk (en_var (eT D.str) p_law_frame_here rfl)) ea_nil)) rfl) (en_shr (EN.tk (en_lstV (z := [[]]) (ec := eL (eK D.int)) (ea_consV (EN.tk (en_dnew (eK D.int) [] rfl)) ea_nil) rfl (le_b rfl)))) (lt_b rfl) (lt_b rfl) (fun _ => rfl)) (fun v1 => (sb_seq (sn_forV (Γb := fun b6 => [some (.sh (schP p_law_plot)), some (.sh (tabsE p_law_stock)), some (.sh (eT D.str p_law_frame_here)), some (.sh (eT D.str v1.1)), some (.sh (eL (eK D.int) b6)), none, none, none, none, none, none, none, none]) (Γab := fun i7 b6 => [some (.sh (schP p_law_plot)), some (.sh (tabsE p_law_stock)), some (.sh (eT D.str p_law_frame_here)), some (.sh (eT D.str v1.1)), some (.sh (eL (eK D.int) b6)), some (.sh (D.int i7.1)), none, none, some (.sh (D.str i7.2.1)), some (.sh (eT D.str i7.2.2)), none, none, none]) (b0 := v1.2) (ea := eP D.int headE) (ei_enumTV (ea := headE) (EN.tk (en_opV (z := p_law_plot.2) (ec := eT headE) (EN.pk (en_var schP p_law_plot rfl)) (EN.pk (en_c D.int 1 rfl)) (ix21 _ _)))) (.s (.s (.s (.s (.s (.n (.n (.n (.n (.n (.n (.n (.n .nil))))))))))))) (fun i7 b6 => (as_tp rfl (as_cons (as_nm (lt_b rfl) rfl) (as_cons (as_tp rfl (as_cons (as_nm (lt_b rfl) rfl) (as_cons (as_nm (lt_b rfl) rfl) as_nil))) as_nil)))) (fun i7 b6 => (sn_seq (sn_set (Γ1 := [some (.sh (schP p_law_plot)), some (.sh (tabsE p_law_stock)), some (.sh (eT D.str p_law_frame_here)), some (.sh (eT D.str v1.1)), some (.sh (eL (eK D.int) b6)), some (.sh (D.int i7.1)), none, none, some (.sh (D.str i7.2.1)), some (.sh (eT D.str i7.2.2)), none, none, none]) (ea := eL (eK D.int)) (Γ' := fun v8 => [some (.sh (schP p_law_plot)), some (.sh (tabsE p_law_stock)), some (.sh (eT D.str p_law_frame_here)), some (.sh (eT D.str v1.1)), some (.sh (eL (eK D.int) b6)), some (.sh (D.int i7.1)), some (.ow (eL (eK D.int) v8)), none, some (.sh (D.str i7.2.1)), some (.sh (eT D.str i7.2.2)), none, none, none]) (en_lstV (z := []) (ec := eL (eK D.int)) ea_nil rfl (le_b rfl)) (lt_b rfl) (fun _ => rfl)) (fun v8 => (sn_seq (sn_forV (Γb := fun b10 => [some (.sh (schP p_law_plot)), some (.sh (tabsE p_law_stock)), some (.sh (eT D.str p_law_frame_here)), some (.sh (eT D.str v1.1)), some (.sh (eL (eK D.int) b6)), some (.sh (D.int i7.1)), some (.ow (eL (eK D.int) b10)), none, some (.sh (D.str i7.2.1)), some (.sh (eT D.str i7.2.2)), none, none, none]) (Γab := fun i11 b10 => [some (.sh (schP p_law_plot)), some (.sh (tabsE p_law_stock)), some (.sh (eT D.str p_law_frame_here)), some (.sh (eT D.str v1.1)), some (.sh (eL (eK D.int) b6)), some (.sh (D.int i7.1)), some (.ow (eL (eK D.int) b10)), some (.sh (eK D.int i11)), some (.sh (D.str i7.2.1)), some (.sh (eT D.str i7.2.2)), none, none, none]) (b0 := v8) (ea := eK D.int) (ei_seqL (ea := eK D.int) (EN.tk (en_var (eL (eK D.int)) b6 rfl))) (.s (.s (.s (.s (.s (.s (.s (.n (.s (.s (.n (.n (.n .nil))))))))))))) (fun i11 b10 => (as_nm (lt_b rfl) rfl)) (fun i11 b10 => (sn_wk (f := fun v12 => v12) (sn_for (Γb := fun b15 => [some (.sh (schP p_law_plot)), some (.sh (tabsE p_law_stock)), some (.sh (eT D.str p_law_frame_here)), some (.sh (eT D.str v1.1)), some (.sh (eL (eK D.int) b6)), some (.sh (D.int i7.1)), some (.ow (eL (eK D.int) b15)), some (.sh (eK D.int i11)), some (.sh (D.str i7.2.1)), some (.sh (eT D.str i7.2.2)), none, none, none]) (Γab := fun i16 b15 => [some (.sh (schP p_law_plot)), some (.sh (tabsE p_law_stock)), some (.sh (eT D.str p_law_frame_here)), some (.sh (eT D.str v1.1)), some (.sh (eL (eK D.int) b6)), some (.sh (D.int i7.1)), some (.ow (eL (eK D.int) b15)), some (.sh (eK D.int i11)), some (.sh (D.str i7.2.1)), some (.sh (eT D.str i7.2.2)), some (.sh (rowE i16)), none, none]) (b0 := b10) (ea := rowE) (ei_seqT (ea := rowE) (EN.tk (en_opP (f := atI) (ec := tabE) (EN.pk (en_var tabsE p_law_stock rfl)) (EN.pk (en_var D.int i7.1 rfl)) (o_ixT (e := tabE))))) (.s (.s (.s (.s (.s (.s (.s (.s (.s (.s (.n (.n (.n .nil))))))))))))) (fun i16 b15 => (as_nm (lt_b rfl) rfl)) (fun i16 b15 => (sn_seq (sn_set (Γ1 := [some (.sh (schP p_law_plot)), some (.sh (tabsE p_law_stock)), some (.sh (eT D.str p_law_frame_here)), some (.sh (eT D.str v1.1)), some (.sh (eL (eK D.int) b6)), some (.sh (D.int i7.1)), some (.ow (eL (eK D.int) b15)), some (.sh (eK D.int i11)), some (.sh (D.str i7.2.1)), some (.sh (eT D.str i7.2.2)), some (.sh (rowE i16)), none, none]) (ea := eK D.int) (Γ' := fun v17 => [some (.sh (schP p_law_plot)), some (.sh (tabsE p_law_stock)), some (.sh (eT D.str p_law_frame_here)), some (.sh (eT D.str v1.1)), some (.sh (eL (eK D.int) b6)), some (.sh (D.int i7.1)), some (.ow (eL (eK D.int) b15)), some (.sh (eK D.int i11)), some (.sh (D.str i7.2.1)), some (.sh (eT D.str i7.2.2)), some (.sh (rowE i16)), some (.ow (eK D.int v17)), none]) (en_unV (z := i11) (ec := eK D.int) (EN.pk (en_var (eK D.int) i11 rfl)) (o_dictK (e := D.int) _)) (lt_b rfl) (fun _ => rfl)) (fun v17 => (sn_seq (jn_upd (Γ' := fun v18 => [some (.sh (schP p_law_plot)), some (.sh (tabsE p_law_stock)), some (.sh (eT D.str p_law_frame_here)), some (.sh (eT D.str v1.1)), some (.sh (eL (eK D.int) b6)), some (.sh (D.int i7.1)), some (.ow (eL (eK D.int) b15)), some (.sh (eK D.int i11)), some (.sh (D.str i7.2.1)), some (.sh (eT D.str i7.2.2)), some (.sh (rowE i16)), some (.ow (eK D.int v18)), none]) (x := v17) (ea := D.int) rfl (EN.tk (en_dictZipV (eb := D.int) (EN.tk (en_var (eT D.str) i7.2.2 rfl)) (EN.tk (en_var rowE i16 rfl)))) (fun _ => rfl)) (fun v18 => (sn_wk (f := fun v22 => v22) (sn_if (Γb := fun v22 => [some (.sh (schP p_law_plot)), some (.sh (tabsE p_law_stock)), some (.sh (eT D.str p_law_frame_here)), some (.sh (eT D.str v1.1)), some (.sh (eL (eK D.int) b6)), some (.sh (D.int i7.1)), some (.ow (eL (eK D.int) v22)), some (.sh (eK D.int i11)), some (.sh (D.str i7.2.1)), some (.sh (eT D.str i7.2.2)), some (.sh (rowE i16)), none, none]) (eb_test (en_op (f := (fun x31 y32 => some (eqB x31 y32))) (ec := D.bl) (EN.pk (en_lcK (Γk := fun i23 => [some (.sh (schP p_law_plot)), some (.sh (tabsE p_law_stock)), some (.sh (eT D.str p_law_frame_here)), some (.sh (eT D.str v1.1)), some (.sh (eL (eK D.int) b6)), some (.sh (D.int i7.1)), some (.ow (eL (eK D.int) b15)), some (.sh (eK D.int i11)), some (.sh (D.str i7.2.1)), some (.sh (eT D.str i7.2.2)), some (.sh (rowE i16)), some (.ow (eK D.int v18)), some (.sh (D.str i23))]) (eb := D.str) (ea := D.int) (x := i11) rfl rfl (fun i23 => (as_nm (lt_b rfl) rfl)) (fun _ => rfl) (fun i23 => (eb_test (en_op (f := (fun x28 y29 => some (!eqB x28 y29))) (ec := D.bl) (EN.pk (en_opP (f := aget) (ec := D.int) (ep_own (eK D.int) v18 rfl) (EN.pk (en_var D.str i23 rfl)) (o_ixK (e := D.int)))) (EN.pk (en_opP (f := aget) (ec := D.int) (EN.pk (en_var (eK D.int) i11 rfl)) (EN.pk (en_var D.str i23 rfl)) (o_ixK (e := D.int)))) (fun _ _ _ h => by cases h; exact (o_ne (e := D.int) _ _))))) (fun i23 => (EN.tk (en_var D.str i23 rfl))))) (EN.pk (en_lstV (z := []) (ec := eL D.str) ea_nil rfl (le_b rfl))) (fun _ _ _ h => by cases h; exact (o_eq (e := (eL D.str)) _ _)))) (sn_wk (f := fun v33 => v33) (jn_meth2 (Γ' := fun v33 => [some (.sh (schP p_law_plot)), some (.sh (tabsE p_law_stock)), some (.sh (eT D.str p_law_frame_here)), some (.sh (eT D.str v1.1)), some (.sh (eL (eK D.int) b6)), some (.sh (D.int i7.1)), some (.ow (eL (eK D.int) v33)), some (.sh (eK D.int i11)), some (.sh (D.str i7.2.1)), some (.sh (eT D.str i7.2.2)), some (.sh (rowE i16)), some (.sh (eK D.int v18)), none]) (x := b15) (f := appT) (el := eK D.int) rfl rfl (et_own (eK D.int) v18 rfl) (o_app (e := eK D.int)) (fun _ => rfl)) (fun v33 => (.s (.s (.s (.s (.s (.s (.s (.s (.s (.s (.s (.n (.n .nil))))))))))))))) (sn_next (b := b15) (.s (.s (.s (.s (.s (.s (.s (.s (.s (.s (.s (.n (.n .nil))))))))))))))) (fun v22 => (.s (.s (.s (.s (.s (.s (.s (.s (.s (.s (.n (.n (.n .nil))))))))))))))))))))) (fun v12 => (.s (.s (.s (.s (.s (.s (.s (.n (.s (.s (.n (.n (.n .nil))))))))))))))))) (fun v9 => (sn_wk (f := fun v37 => v37) (sn_set (Γ1 := [some (.sh (schP p_law_plot)), some (.sh (tabsE p_law_stock)), some (.sh (eT D.str p_law_frame_here)), some (.sh (eT D.str v1.1)), some (.sh (eL (eK D.int) b6)), some (.sh (D.int i7.1)), none, none, some (.sh (D.str i7.2.1)), some (.sh (eT D.str i7.2.2)), none, none, none]) (ea := eL (eK D.int)) (Γ' := fun v37 => [some (.sh (schP p_law_plot)), some (.sh (tabsE p_law_stock)), some (.sh (eT D.str p_law_frame_here)), some (.sh (eT D.str v1.1)), some (.sh (eL (eK D.int) v37)), some (.sh (D.int i7.1)), none, none, some (.sh (D.str i7.2.1)), some (.sh (eT D.str i7.2.2)), none, none, none]) (en_shr (et_if (eb_test (en_opV (z := inB i7.2.1 p_law_frame_here) (ec := D.bl) (EN.pk (en_var D.str i7.2.1 rfl)) (EN.pk (en_var (eT D.str) p_law_frame_here rfl)) (o_inT (e := D.str) _ _))) (ET.wk (Γ2 := [some (.sh (schP p_law_plot)), some (.sh (tabsE p_law_stock)), some (.sh (eT D.str p_law_frame_here)), some (.sh (eT D.str v1.1)), some (.sh (eL (eK D.int) b6)), some (.sh (D.int i7.1)), none, none, some (.sh (D.str i7.2.1)), some (.sh (eT D.str i7.2.2)), none, none, none]) (et_own (eL (eK D.int)) v9 rfl) (.s (.s (.s (.s (.s (.s (.n (.n (.s (.s (.n (.n (.n .nil)))))))))))))) (ET.wk (Γ2 := [some (.sh (schP p_law_plot)), some (.sh (tabsE p_law_stock)), some (.sh (eT D.str p_law_frame_here)), some (.sh (eT D.str v1.1)), some (.sh (eL (eK D.int) b6)), some (.sh (D.int i7.1)), none, none, some (.sh (D.str i7.2.1)), some (.sh (eT D.str i7.2.2)), none, none, none]) (EN.tk (en_var (eL (eK D.int)) b6 rfl)) (.s (.s (.s (.s (.s (.s (.n (.n (.s (.s (.n (.n (.n .nil)))))))))))))))) (lt_b rfl) (fun _ => rfl)) (fun v37 => (.s (.s (.s (.s (.s (.n (.n (.n (.n (.n (.n (.n (.n .nil))))))))))))))))))))) (fun v4 => (sb_ret (EN.tk (en_un (f := (fun x45 => some (x45))) (ec := rowsE) (EN.pk (en_un (f := (fun x44 => some (srtE (eT D.int) x44))) (ec := eL (eT D.int)) (EN.pk (en_mapS (Γa := fun i39 => [some (.sh (schP p_law_plot)), some (.sh (tabsE p_law_stock)), some (.sh (eT D.str p_law_frame_here)), some (.sh (eT D.str v1.1)), some (.sh (eL (eK D.int) v4)), none, none, some (.sh (eK D.int i39)), none, none, none, none, none]) (ea := eK D.int) (eb := eT D.int) (ei_seqL (ea := eK D.int) (EN.tk (en_var (eL (eK D.int)) v4 rfl))) rfl (fun i39 => (as_nm (lt_b rfl) rfl)) (fun _ => rfl) (fun i39 => (EN.tk (en_un (f := (fun x43 => some (x43))) (ec := eT D.int) (EN.pk (en_mapS (Γa := fun i40 => [some (.sh (schP p_law_plot)), some (.sh (tabsE p_law_stock)), some (.sh (eT D.str p_law_frame_here)), some (.sh (eT D.str v1.1)), some (.sh (eL (eK D.int) v4)), none, none, some (.sh (eK D.int i39)), none, none, none, none, some (.sh (D.str i40))]) (ea := D.str) (eb := D.int) (ei_seqT (ea := D.str) (EN.tk (en_var (eT D.str) v1.1 rfl))) rfl (fun i40 => (as_nm (lt_b rfl) rfl)) (fun _ => rfl) (fun i40 => (EN.tk (en_opP (f := aget) (ec := D.int) (EN.pk (en_var (eK D.int) i39 rfl)) (EN.pk (en_var D.str i40 rfl)) (o_ixK (e := D.int))))))) (fun _ _ h => by cases h; exact (o_tupL (e := D.int) _))))))) (fun _ _ h => by cases h; exact (o_sortL (e := eT D.int) _)))) (fun _ _ h => by cases h; exact (o_tupL (e := eT D.int) _)))))))))
  exact fn_ok hb rfl rfl h
/-! ### full rows, table by table -/
def updR (row l : Rw) : Rw := l.foldl (fun acc p => aput acc p.1 p.2) row
theorem updR_no {c : Str} : ∀ {l row : Rw}, c ∉ l.map (·.1) → aget (updR row l) c = aget row c
  | [], _, _ => rfl
  | p :: l, row, h => by
    rw [List.map_cons, List.mem_cons, not_or] at h
    show aget (updR (aput row p.1 p.2) l) c = _
    rw [updR_no h.2, aget_put, if_neg h.1]
theorem updR_yes : ∀ {l row : Rw}, (l.map (·.1)).Nodup → ∀ p ∈ l, aget (updR row l) p.1 = some p.2
  | q :: l, row, hn, p, hp => by
    rw [List.map_cons, List.nodup_cons] at hn
    show aget (updR (aput row q.1 q.2) l) p.1 = _
    rcases List.mem_cons.mp hp with rfl | hp
    · rw [updR_no hn.1, aget_put, if_pos rfl]
    · exact updR_yes hn.2 p hp
theorem fitR_upd : ∀ {l row : Rw}, (l.map (·.1)).Nodup → (∀ p ∈ l, ∀ k, aget row p.1 = some k → k = p.2) → fitR row l = some (updR row l)
  | [], row, _, _ => rfl
  | p :: l, row, hn, h => by
    rw [List.map_cons, List.nodup_cons] at hn
    have e : fitS row p = some (aput row p.1 p.2) := by
      unfold fitS
      rw [if_pos]
      cases ha : aget row p.1 with
      | none => rfl
      | some k => exact h p List.mem_cons_self k ha
    rw [fitR_cons, e, Option.bind_some]
    exact fitR_upd hn.2 fun q hq k hk => by
      rw [aget_put, if_neg (fun e => hn.1 (by rw [← e]; exact List.mem_map_of_mem (f := fun z : Str × Int => z.1) hq))] at hk
      exact h q (List.mem_cons_of_mem _ hq) k hk
/-- the law's own test -/
noncomputable def fitB (row l : Rw) : Bool := (row.map (·.1)).all fun c => eqB (aget (updR row l) c) (aget row c)
theorem fitB_iff {row l : Rw} (hn : (l.map (·.1)).Nodup) : fitB row l = true ↔ ∀ p ∈ l, ∀ k, aget row p.1 = some k → k = p.2 := by
  unfold fitB
  rw [List.all_eq_true]
  constructor
  · intro h p hp k hk
    have hc : p.1 ∈ row.map (·.1) := aget_some.mp (by rw [hk]; rfl)
    have := h p.1 hc
    rw [eqB_iff, updR_yes hn p hp, hk] at this
    exact (Option.some.inj this).symm
  · intro h c hc
    rw [eqB_iff]
    by_cases hl : c ∈ l.map (·.1)
    · obtain ⟨p, hp, rfl⟩ := List.mem_map.mp hl
      rw [updR_yes hn p hp]
      cases ha : aget row p.1 with
      | none => have := aget_some.mpr hc; rw [ha] at this; cases this
      | some k => rw [h p hp k ha]
    · exact updR_no hl
theorem fitR_if {row l : Rw} (hn : (l.map (·.1)).Nodup) : fitR row l = if fitB row l = true then some (updR row l) else none := by
  by_cases h : fitB row l = true
  · rw [if_pos h]; exact fitR_upd hn ((fitB_iff hn).mp h)
  · rw [if_neg h]
    cases hf : fitR row l with
    | none => rfl
    | some b =>
      obtain ⟨h1, h2, _, _⟩ := fitR_some hf
      refine absurd ((fitB_iff hn).mpr fun p hp k hk => ?_) h
      have a := h1 _ _ hk
      rw [h2 p hp] at a
      exact (Option.some.inj a).symm
section
variable {dl : List (Str × Str)} {hs : List (Str × List Str)} {fr : List Str} {ts : List (List (List Int))} {m : Nat}
/-- one row of a table, for one row that is found -/
noncomputable def fullB (cs : List Str) (row : Rw) (i16 : List Int) (b15 : List Rw) : TM (List Rw) := bindT (optT (updT row (mkd (cs.zip i16)))) fun v18 => bindT (bindT (optT (keysT row)) fun l30 => compT (fun i23 => bindT (optT (aget v18 i23)) fun x28 => bindT (optT (aget row i23)) fun y29 => pureT (!eqB x28 y29)) (fun i23 => pureT i23) l30) fun x31 => if eqB x31 ([] : List Str) = true then optT (appT b15 v18) else pureT b15
theorem fullB_eq {cs : List Str} {row : Rw} {r : List Int} {acc : List Rw} (hcs : cs.Nodup) (hr : r.length = cs.length) (hrow : row.length ≤ 1000) (hc1 : cs.length ≤ 1000) (hl : acc.length ≤ 1000000) : fullB cs row r acc = pureT (acc ++ (fitR row (cs.zip r)).toList) := by
  have hk : (cs.zip r).map (·.1) = cs := zip_keys hr.symm
  have hn : ((cs.zip r).map (·.1)).Nodup := by rw [hk]; exact hcs
  unfold fullB
  rw [mkd_nodup hn, updT_eq (by rw [List.length_zip]; omega), opt_some, bindT_pure, keysT_eq (by omega), opt_some, bindT_pure,
    compT_pure (f := fun c => !eqB (aget (updR row (cs.zip r)) c) (aget row c)) (h := fun c => c) (fun c hc => ?_) (fun _ _ _ => rfl), bindT_pure, List.map_id']
  · have e : eqB ((row.map (·.1)).filter fun c => !eqB (aget (updR row (cs.zip r)) c) (aget row c)) [] = fitB row (cs.zip r) := by
      rw [Bool.eq_iff_iff, eqB_iff, List.filter_eq_nil_iff]
      unfold fitB
      rw [List.all_eq_true]
      simp
    rw [e, fitR_if hn]
    by_cases hb : fitB row (cs.zip r) = true
    · rw [if_pos hb, if_pos hb, appT_eq (by omega), opt_some]; rfl
    · rw [if_neg hb, if_neg hb]; simp
  · have h1 := aget_some.mpr hc
    obtain ⟨k, hk1⟩ := Option.isSome_iff_exists.mp h1
    have h2 : ∃ k', aget (updR row (cs.zip r)) c = some k' := by
      by_cases hl : c ∈ (cs.zip r).map (·.1)
      · obtain ⟨p, hp, rfl⟩ := List.mem_map.mp hl
        exact ⟨_, updR_yes hn p hp⟩
      · exact ⟨k, by rw [updR_no hl, hk1]⟩
    obtain ⟨k', hk2⟩ := h2
    have hk2' : aget (List.foldl (fun acc p => aput acc p.1 p.2) row (cs.zip r)) c = some k' := hk2
    rw [hk2', hk1, hk2, opt_some, opt_some, bindT_pure, bindT_pure]
    have : eqB (some k') (some k) = eqB k' k := by rw [Bool.eq_iff_iff]; simp
    rw [this]
theorem full_in {row : Rw} {cs : List Str} (hcs : cs.Nodup) (hrow : row.length ≤ 1000) (hc1 : cs.length ≤ 1000) :
    ∀ {t : List (List Int)} {acc : List Rw}, (∀ r ∈ t, r.length = cs.length) → acc.length + t.length ≤ 1000000 → forT (fullB cs row) t acc = pureT (acc ++ t.filterMap fun r => fitR row (cs.zip r))
  | [], acc, _, _ => by simp [forT]
  | r :: t, acc, hw, hl => by
    rw [List.length_cons] at hl
    unfold forT
    have : (fitR row (cs.zip r)).toList.length ≤ 1 := by cases fitR row (cs.zip r) <;> simp
    rw [fullB_eq hcs (hw r List.mem_cons_self) hrow hc1 (by omega), bindT_pure, full_in hcs hrow hc1 (fun r h => hw r (List.mem_cons_of_mem _ h)) (by rw [List.length_append]; omega), List.append_assoc, List.filterMap_cons]
    cases fitR row (cs.zip r) <;> rfl
theorem full_mid {cs : List Str} {t : List (List Int)} (hcs : cs.Nodup) (hw : ∀ r ∈ t, r.length = cs.length) (hc1 : cs.length ≤ 1000) (ht : t.length ≤ 100) :
    ∀ {rows : List Rw} {acc : List Rw}, (∀ row ∈ rows, row.length ≤ 1000) → acc.length + 100 * rows.length ≤ 1000000 → forT (fun (row : Rw) (b10 : List Rw) => forT (fullB cs row) t b10) rows acc = pureT (acc ++ (fitAll rows cs t).filterMap id)
  | [], acc, _, _ => by simp [forT, fitAll]
  | row :: rows, acc, hr, hl => by
    rw [List.length_cons] at hl
    unfold forT
    rw [full_in hcs (hr row List.mem_cons_self) hc1 hw (by omega), bindT_pure, full_mid hcs hw hc1 ht (fun r h => hr r (List.mem_cons_of_mem _ h)) (by
      rw [List.length_append]
      have := List.length_filterMap_le (fun r => fitR row (cs.zip r)) t
      omega)]
    unfold fitAll
    rw [List.flatMap_cons, List.filterMap_append, List.filterMap_map, ← List.append_assoc]
    rfl
theorem srtE_row (l : List (List Int)) : srtE (eT D.int) l = srtR l := by unfold srtE srtR; rfl
theorem T_full_eq (hd : Dials dl) (hh : Heads dl hs) (ht : Tabs m hs ts) (hm : m ≤ 6) : T__law_full (dl, hs) ts fr = pureT (fullR hs ts fr) := by
  have hok := htok hh ht
  have hz4 : (hs.zip ts).length ≤ 4 := by rw [List.length_zip]; have := hh.few; omega
  have h64 : ∀ k, k ≤ 4 → 6 ^ k ≤ 1296 := fun k hk => Nat.le_trans (Nat.pow_le_pow_right (by decide) hk) (by decide)
  have hlen : ts.length = hs.length := ht.len
  unfold T__law_full
  simp only [c_lcols hh, bindT_pure, bindT_bind, bindT_ret, opt_some]
  obtain ⟨rows, e, hrows⟩ := forT_inv (mb := fun (i7 : Int × Str × List Str) (b6 : List Rw) => bindT (forT (fun (i11 : Rw) (b10 : List Rw) => bindT (optT (atI ts i7.1)) fun l36 => forT (fullB i7.2.2 i11) l36 b10) b6 []) fun v9 => if inB i7.2.1 fr = true then pureT v9 else pureT b6)
    (fun k rows => rows = rowsP fr ((hs.zip ts).take k)) (enumI hs) 0 [[]] (by simp [rowsP]) fun k p rows hp hr => by
      rw [Nat.zero_add] at hr ⊢
      unfold enumI at hp
      rw [List.getElem?_mapIdx] at hp
      obtain ⟨h, hh1, rfl⟩ := Option.map_eq_some_iff.mp hp
      have hk : k < hs.length := (List.getElem?_eq_some_iff.mp hh1).1
      have hk2 : k < ts.length := by omega
      have hz : (hs.zip ts)[k]? = some (h, ts[k]) := List.getElem?_zip_eq_some.mpr ⟨hh1, List.getElem?_eq_getElem hk2⟩
      have hpm := List.mem_of_getElem? hz
      have O := hok _ hpm
      have T := ht.tab _ hpm
      have hat : atI ts (k : Int) = some ts[k] := by
        obtain ⟨x, h1, h2⟩ := atI_some (l := ts) (i := (k : Int)) (by omega) (by omega)
        rw [Int.toNat_natCast, List.getElem?_eq_getElem hk2] at h2
        rw [h1, ← h2]
      have hrl := rowsP_len (fr := fr) ht hm k
      have := h64 k (by have := hh.few; omega)
      rw [← hr] at hrl
      have hrow : ∀ row ∈ rows, row.length ≤ 1000 := fun row hrow => by
        rw [hr] at hrow
        have := (rowsP_ok (fr := fr) (fun q hq => hok q (List.mem_of_mem_take hq)) row hrow).len
        rw [List.length_take] at this
        omega
      have hmid := full_mid (acc := []) O.cnd O.wide (by have := O.few; omega) (by have := T.few; omega) hrow (by simp only [List.length_nil]; omega)
      simp only [hat, opt_some, bindT_pure] at hmid ⊢
      rw [hmid, bindT_pure, List.nil_append]
      refine ⟨_, (apply_ite pureT (inB h.1 fr = true) _ _).symm, ?_⟩
      rw [rowsP_take hz, hr]
      unfold moreR
      by_cases hin : h.1 ∈ fr
      · rw [if_pos (inB_iff.mpr hin), if_pos hin]
      · rw [if_neg (fun z => hin (inB_iff.mp z)), if_neg hin]
  have hel : (enumI hs).length = (hs.zip ts).length := by unfold enumI; rw [List.length_mapIdx, List.length_zip]; omega
  rw [Nat.zero_add, hel, List.take_length] at hrows
  unfold fullB at e
  simp only [bindT_bind] at e
  rw [e, bindT_pure, mapT_pure (h := fun row => projR (colsL hs fr) row) fun row hrow => ?_]
  · rw [bindT_pure, srtE_row, hrows]; rfl
  · rw [hrows] at hrow
    refine mapT_pure fun c hc => ?_
    obtain ⟨k, hk⟩ := row_has hh ht hrow hc
    rw [hk]; rfl
theorem c_lfull (hd : Dials dl) (hh : Heads dl hs) (ht : Tabs m hs ts) (hm : m ≤ 6) : callT F__law_full rowsE [schP (dl, hs), tabsE ts, eT D.str fr] = pureT (fullR hs ts fr) := callT_pure fun g => S__law_full _ _ _ (by rw [T_full_eq hd hh ht hm]; rfl)
end
end DL
namespace DL
open PySem PySem.Spec PyProof.Rows L2
/-! ### plans, looked at -/
end DL
namespace DL
open PySem PySem.Spec PyProof.Rows L2
end DL
namespace DL
open PySem PySem.Spec PyProof.Rows L2
/-! ### data that is shown, by the length of its text -/
structure Fr (n k : Nat) (d : D) : Prop where
  ok : okD d = true
  sh : d.py.shown.length ≤ n
  dp : d.py.depth ≤ k
theorem Fr.mono {n k n' k' : Nat} {d : D} (h : Fr n k d) (h1 : n ≤ n') (h2 : k ≤ k') : Fr n' k' d := ⟨h.ok, Nat.le_trans h.sh h1, Nat.le_trans h.dp h2⟩
theorem fr_small {i : Int} (h : i.natAbs < 1000) : Fr 4 0 (.int i) := ⟨by
    have : i.natAbs.log2 < 1920 := by
      by_cases e : i.natAbs = 0
      · rw [e]; decide
      · exact (Nat.log2_lt e).mpr (Nat.lt_of_lt_of_le h (Nat.le_trans (by decide : 1000 ≤ 2 ^ 10) (Nat.pow_le_pow_right (by decide) (by decide))))
    simp only [okD, this, decide_true], by
    have := int_text_length_le10 (a := i) (k := 3) (by decide) (by omega)
    simp only [D.py, PyData.shown]
    show (Str.ofString (toString i)).length ≤ 4
    rw [PySem.ofString_length]; omega, by simp [D.py, PyData.depth]⟩
theorem piled_fr {B k : Nat} : ∀ {l : List D}, (∀ d ∈ l, Fr B k d) → piled (PyData.shownAll (D.pys l)) ≤ l.length * (B + 2)
  | [], _ => by simp [D.pys, PyData.shownAll, piled]
  | d :: l, h => by
    simp only [D.pys, PyData.shownAll, piled_cons, List.length_cons]
    have := (h d List.mem_cons_self).sh
    have := piled_fr (l := l) fun d hd => h d (List.mem_cons_of_mem _ hd)
    rw [Nat.add_mul]
    omega
theorem Fr.tup {B k L N : Nat} {l : List D} (h : ∀ d ∈ l, Fr B k d) (hl : l.length ≤ L) (hN : L * (B + 2) + 3 ≤ N) : Fr N (k + 1) (.tup l) :=
  ⟨by simp only [okD]; exact okDs_iff.mpr fun d hd => (h d hd).ok, by
    simp only [D.py, PyData.shown]
    have := tupleText_le (PyData.shownAll (D.pys l))
    have := piled_fr h
    have : l.length * (B + 2) ≤ L * (B + 2) := Nat.mul_le_mul_right _ hl
    omega, by simp only [D.py, PyData.depth]; have := depthAll_le fun d hd => (h d hd).dp; omega⟩
theorem Fr.lst {B k L N : Nat} {l : List D} (h : ∀ d ∈ l, Fr B k d) (hl : l.length ≤ L) (hN : L * (B + 2) + 3 ≤ N) : Fr N (k + 1) (.lst l) :=
  ⟨by simp only [okD]; exact okDs_iff.mpr fun d hd => (h d hd).ok, by
    simp only [D.py, PyData.shown]
    have := listText_le (PyData.shownAll (D.pys l))
    have := piled_fr h
    have : l.length * (B + 2) ≤ L * (B + 2) := Nat.mul_le_mul_right _ hl
    omega, by simp only [D.py, PyData.depth]; have := depthAll_le fun d hd => (h d hd).dp; omega⟩
theorem Fr.mapT {α : Type} {e : α → D} {B k L N : Nat} {l : List α} (h : ∀ a ∈ l, Fr B k (e a)) (hl : l.length ≤ L) (hN : L * (B + 2) + 3 ≤ N) : Fr N (k + 1) (eT e l) := by
  unfold eT
  exact Fr.tup (L := L) (fun d hd => by obtain ⟨a, ha, rfl⟩ := List.mem_map.mp hd; exact h a ha) (by simpa using hl) hN
theorem Fr.mapL {α : Type} {e : α → D} {B k L N : Nat} {l : List α} (h : ∀ a ∈ l, Fr B k (e a)) (hl : l.length ≤ L) (hN : L * (B + 2) + 3 ≤ N) : Fr N (k + 1) (eL e l) := by
  unfold eL
  exact Fr.lst (L := L) (fun d hd => by obtain ⟨a, ha, rfl⟩ := List.mem_map.mp hd; exact h a ha) (by simpa using hl) hN
theorem Fr.repr {n k : Nat} {d : D} (h : Fr n k d) (hn : n ≤ 10000000) (hk : k ≤ 100) : l1 opRepr d = some (.str d.py.shown) := by
  have h2 := h.sh
  have h3 := h.dp
  have : okRepr d = true := by
    simp only [okRepr, Bool.and_eq_true, decide_eq_true_eq]
    exact ⟨⟨⟨okD_pl d h.ok, okD_show d h.ok⟩, by omega⟩, by rw [sizeLine_eq]; omega⟩
  have f : opRepr d = some (.sh (.str d.py.shown)) := by simp only [opRepr, this, if_true]
  unfold l1
  rw [f]
theorem row_fr {r : List Int} (hl : r.length ≤ 5) (hk : ∀ i ∈ r, 0 ≤ i ∧ i ≤ 99) : Fr 33 1 (rowE r) := Fr.mapT (e := D.int) (B := 4) (L := 5) (fun i hi => fr_small (by have := hk i hi; omega)) hl (by decide)
section
variable {dl : List (Str × Str)} {hs : List (Str × List Str)} {fr : List Str} {ts : List (List (List Int))} {m : Nat}
theorem full_key (hh : Heads dl hs) (ht : Tabs m hs ts) {r : List Int} (h : IsFull hs ts fr r) : ∀ i ∈ r, 0 ≤ i ∧ i ≤ 99 := by
  intro i hi
  rw [← map_kat (cols_nodup hs fr) h.1] at hi
  obtain ⟨c, hc, rfl⟩ := List.mem_map.mp hi
  obtain ⟨x, h1, h2, h3⟩ := colsL_mem.mp hc
  obtain ⟨k, hk, e⟩ := List.getElem_of_mem h1
  have hk2 : k < ts.length := by rw [ht.len]; exact hk
  have hz : (x, ts[k]) ∈ hs.zip ts := List.mem_of_getElem? (i := k) (List.getElem?_zip_eq_some.mpr ⟨by rw [List.getElem?_eq_getElem hk, e], List.getElem?_eq_getElem hk2⟩)
  have hr := h.2 _ hz h2
  exact (ht.tab _ hz).key _ hr _ (List.mem_map_of_mem h3)
theorem full_fr (hd : Dials dl) (hh : Heads dl hs) (ht : Tabs m hs ts) {r : List Int} (h : r ∈ fullR hs ts fr) : Fr 33 1 (rowE r) := by
  have h := (fullR_mem hh ht).mp h
  exact row_fr (by rw [← h.1]; exact cols_len hd hh) (full_key hh ht h)
theorem fullR_few (hh : Heads dl hs) (ht : Tabs m hs ts) (hm : m ≤ 6) : (fullR hs ts fr).length ≤ 1296 := by
  have h := fullR_len (fr := fr) ht hm
  have hz4 : (hs.zip ts).length ≤ 4 := by rw [List.length_zip]; have := hh.few; omega
  exact Nat.le_trans h (Nat.le_trans (Nat.pow_le_pow_right (by decide) hz4) (by decide))
theorem rowsL_repr {l : List (List (List Int))} (hl : l.length ≤ 20) (h : ∀ rs ∈ l, Fr 50000 2 (rowsE rs)) : l1 opRepr (eL rowsE l) = some (.str (eL rowsE l).py.shown) := Fr.repr (Fr.mapL (B := 50000) (k := 2) (L := 20) h hl (Nat.le_refl _)) (by decide) (by decide)
end
end DL
namespace DL
open PySem PySem.Spec PyProof.Rows L2
end DL
namespace DL
open PySem PySem.Spec PyProof.Rows L2
end DL
namespace DL
open PySem PySem.Spec PyProof.Rows L2
instance : Shp trE := ⟨.inl fun _ => rfl⟩
end DL
namespace DL
open PySem PySem.Spec PyProof.Rows L2
end DL
namespace DL
open PySem PySem.Spec PyProof.Rows L2
end DL
namespace DL
open PySem PySem.Spec PyProof.Rows L2
/-! ### within, beyond -/
section
variable {dl : List (Str × Str)} {hs : List (Str × List Str)} {fr : List Str} {ts : List (List (List Int))} {F : List Trip} {p q : Plan} {g : Dk} {n : Nat}
theorem any_map {α : Type} {l : List α} {f : α → Bool} : (l.map f).any id = l.any f := by rw [List.any_map]; rfl
end
end DL
namespace DL
open PySem PySem.Spec PyProof.Rows L2
end DL
namespace DL
open PySem PySem.Spec PyProof.Rows L2
end DL
namespace DL
open PySem PySem.Spec PyProof.Rows L2
/-! ### rates in order -/
end DL
namespace DL
open PySem PySem.Spec PyProof.Rows L2
/-! ### a way told by tables, a draw and a row -/
end DL
namespace DL
open PySem PySem.Spec PyProof.Rows L2
/-! ### what is told is right -/
end DL
namespace DL
open PySem PySem.Spec PyProof.Rows L2
end DL
namespace DL
open PySem PySem.Spec PyProof.Rows L2
end DL
namespace DL
open PySem PySem.Spec PyProof.Rows L2
/-- some of a list, drawn -/
theorem compT_sub {α : Type} {mt : α → TM Bool} (h : ∀ a n g, Ok (n + 1) g → wpT (mt a) g fun _ g' => Ok n g') : ∀ (l : List α) (n : Nat) (g : Dk), Ok (n + l.length) g → wpT (compT mt (fun a => pureT a) l) g fun r g' => r.Sublist l ∧ Ok n g'
  | [], n, g, ok => wp_pureI.mpr ⟨List.Sublist.refl _, ok⟩
  | a :: l, n, g, ok => by
    unfold compT
    rw [wp_bind]
    obtain ⟨b, g1, e1, ok1⟩ := h a (n + l.length) g (by rw [List.length_cons] at ok; exact ok)
    refine ⟨b, g1, e1, ?_⟩
    obtain ⟨r, g2, e2, h1, ok2⟩ := compT_sub h l n g1 ok1
    cases b with
    | true =>
      rw [if_pos rfl, bindT_pure, wp_bind]
      exact ⟨r, g2, e2, wp_pureI.mpr ⟨h1.cons₂ a, ok2⟩⟩
    | false =>
      rw [if_neg (by simp)]
      exact ⟨r, g2, e2, h1.cons a, ok2⟩
end DL
namespace DL
open PySem PySem.Spec PyProof.Rows L2
/-! ### slices of plans as data -/
end DL
namespace DL
open PySem PySem.Spec PyProof.Rows L2
end DL
namespace DL
open PySem PySem.Spec PyProof.Rows L2
end DL
namespace DL
open PySem PySem.Spec PyProof.Rows L2
end DL
namespace DL
open PySem PySem.Spec PyProof.Rows L2
/-! ### _law_same of a datum and itself -/
theorem wp_mid {α β : Type} {m : TM α} {k : α → TM β} {g : Dk} {Q : β → Dk → Prop} (J : α → Dk → Prop) (h1 : wpT m g J) (h2 : ∀ a g', J a g' → wpT (k a) g' Q) : wpT (bindT m k) g Q := wpT_bind (wpT_mono h1 h2)
end DL
namespace DL
open PySem PySem.Spec PyProof.Rows L2
end DL
namespace DL
open PySem PySem.Spec PyProof.Rows L2
/-! ### dicts with nested keys, typed -/
section
variable {α β γ κ ρ : Type} {Γ Γ1 Γ2 : Sl} {i : Nat} {p : Pt} {vs : List Nat} {e1 e2 e3 : M Dk S} {ek : κ → D} {ev : β → D} {eb : γ → D} {m : Nat}
@[irreducible] def keysN (x : List (κ × β)) : Option (List κ) := if x.length ≤ sizeLine then some (x.map (·.1)) else none
theorem keysN_eq {x : List (κ × β)} (h : x.length ≤ 10000000) : keysN x = some (x.map (·.1)) := by unfold keysN; rw [if_pos (by rw [sizeLine_eq]; omega)]
theorem eDn_keys (x : List (κ × β)) : (x.map fun p => (ek p.1, ev p.2)).map (·.1) = (x.map (·.1)).map ek := by simp [List.map_map]
theorem lcN_run {x : List (κ × β)} {test : M Dk Bool} {elt : M Dk S} {st : Sl} {g : Dk} (hc : x.length ≤ sizeLine) (h : st[i]? = some (some (.sh (eDn ek ev x)))) : mLcN i p vs test elt st g = bnd (compM p vs test elt ((x.map (·.1)).map ek) [] st g) fun acc st g => some (.ow (.lst acc), wipeS st vs, g) := by
  cases x with
  | nil =>
    have e : isNSlot i st = false := by unfold isNSlot; rw [h]; rfl
    have e2 : isDSlot i st = true := by unfold isDSlot; rw [h]; rfl
    unfold mLcN mLcV
    rw [e, e2]
    unfold mLcK mTake mVar
    rw [h]
    simp only [bnd_some, take, Option.map_some, eDn]
    rw [if_neg (by simp), if_pos trivial, if_pos (by simp)]
    rfl
  | cons q x =>
    have e : isNSlot i st = true := by unfold isNSlot; rw [h]; rfl
    unfold mLcN
    rw [e, if_pos rfl]
    unfold mLcKN mTake mVar
    rw [h]
    simp only [bnd_some, take, Option.map_some, eDn]
    rw [if_pos (by rw [List.length_map]; exact hc), eDn_keys]
theorem en_lcN {test : M Dk Bool} {elt : M Dk S} {Γk : κ → Sl} {mtk : κ → TM Bool} {mek : κ → TM γ} {x : List (κ × β)} (h : Γ[i]? = some (some (.sh (eDn ek ev x)))) (hw : wipeS Γ vs = Γ) (ha : ∀ a, asg p (ek a) Γ = some (Γk a)) (hb : ∀ a, wipeS (Γk a) vs = Γ) (ht : ∀ a, EB (Γk a) test (mtk a) (Γk a)) (he : ∀ a, ET (Γk a) elt (mek a) eb (Γk a)) :
    EN Γ (mLcN i p vs test elt) (bindT (optT (keysN x)) fun l => compT mtk mek l) true (eL eb) Γ := fun st g a g' hs hm => by
  obtain ⟨l, g1, m1, hm⟩ := bind_eq hm
  obtain ⟨ho, rfl⟩ := opt_eq m1
  unfold keysN at ho
  split at ho
  · rename_i hc
    cases ho
    obtain ⟨st2, h2, hs2⟩ := comp_run (ei := ek) ha hb ht he (x.map (·.1)) [] st g a g' (by have := hs.wipe (vs := vs); rwa [hw] at this) hm
    refine ⟨_, ?_, hs2⟩
    rw [lcN_run hc (hs.get h), h2, List.nil_append]
    rfl
  · cases ho
/-! ### lookups -/
/-! ### a slot is shared -/
theorem jn_after {s : M Dk Fl} {mm : TM α} {Γ' : α → Sl} {d : α → D} (h : JN Γ s mm Γ') (hd : ∀ a, (Γ' a)[i]? = some (some (.ow (d a)))) : JN Γ (mAfter i s) mm fun a => (Γ' a).set i (some (.sh (d a))) := fun st g a g' hs hm => by
  obtain ⟨st1, e, hs1⟩ := h st g a g' hs hm
  refine ⟨st1.set i (some (.sh (d a))), ?_, hs1.set _⟩
  unfold mAfter
  rw [e, bnd_some]
  simp only
  unfold shrSlot
  rw [hs1.get (hd a)]
theorem jn_afterS {s : M Dk Fl} {mm : TM α} {Γ' Γ'' : α → Sl} {d : α → D} (h : JN Γ s mm Γ') (hd : ∀ a, (Γ' a)[i]? = some (some (.ow (d a)))) (hΓ : ∀ a, (Γ' a).set i (some (.sh (d a))) = Γ'' a) : JN Γ (mAfter i s) mm Γ'' := by
  have := jn_after h hd
  rwa [show (fun a => (Γ' a).set i (some (.sh (d a)))) = Γ'' from funext hΓ] at this
end
end DL
namespace DL
open PySem PySem.Spec PyProof.Rows L2
noncomputable def C__law_may_be_0 : M Dk S := (mLc (srcZip (mCons (mVar 8) (mCons (mVar 10) mNil))) (.tp [(.nm 12), (.nm 13)]) [12, 13] (mTest (mOp opNe (mGet2 (mVar 5) (mVar 12) (mVar 13)) (mVar 13))) (mC (.int 1)))
noncomputable def L__law_may_be_1 : M Dk Fl := (mSeq (mSet 11 (mShr C__law_may_be_0)) (mSet 9 (mShr (mOrV (mVar 9) (mOp opEq (mVar 11) (mLst mNil))))))
noncomputable def L__law_may_be_2 : M Dk Fl := (mIf (mTest (mOp (opIn false) (mVar 7) (mVar 2))) (mSeq (mSet 9 (mC (.bl false))) (mSeq (mFor (srcSeq (mOp opIx (mVar 1) (mVar 6))) (.nm 10) L__law_may_be_1) (mIf (mNot (mTest (mVar 9))) (mRet (mC (.bl false))) mNext))) mNext)
noncomputable def B__law_may_be : M Dk Fl := (mSeq (mSet 5 (mShr (mDictZip (mCons (mVar 3) (mCons (mVar 4) mNil))))) (mSeq (mFor (srcEnumT (mOp opIx (mVar 0) (mC (.int 1)))) (.tp [(.nm 6), (.tp [(.nm 7), (.nm 8)])]) L__law_may_be_2) (mRet (mC (.bl true)))))
noncomputable def F__law_may_be : Fn Dk := mFn 5 14 B__law_may_be
noncomputable def L__law_by_keys_0 : M Dk Fl := (mDPutN 6 (mTup (mCons (mVar 4) (mCons (mVar 13) mNil))) (mC (.bl true)))
noncomputable def L__law_by_keys_1 : M Dk Fl := (mFor (srcZip (mCons (mVar 10) (mCons (mVar 8) mNil))) (.tp [(.nm 4), (.nm 13)]) L__law_by_keys_0)
noncomputable def L__law_by_keys_2 : M Dk Fl := (mFor (srcSeq (mOp opIx (mVar 1) (mVar 7))) (.nm 8) L__law_by_keys_1)
noncomputable def C__law_by_keys_3 : M Dk S := (mLcN 6 (.tp [(.nm 14), (.nm 13)]) [14, 13] (mTest (mOp opEq (mVar 14) (mVar 4))) (mVar 13))
noncomputable def C__law_by_keys_4 : M Dk S := (mLc (srcSeq (mVar 11)) (.nm 13) [13] mYes (mOp opAdd (mVar 8) (mTup (mCons (mVar 13) mNil))))
noncomputable def L__law_by_keys_5 : M Dk Fl := (mDrop (mMethL 12 opExt C__law_by_keys_4))
noncomputable def C__law_by_keys_6 : M Dk S := (mLc (srcSeq (mVar 12)) (.nm 8) [8] (mTest (mCall F__law_may_be (mCons (mVar 0) (mCons (mVar 1) (mCons (mVar 2) (mCons (mSl (mVar 5) mNoP (mPart (mUn opLen (mVar 8)))) (mCons (mVar 8) mNil))))))) (mVar 8))
noncomputable def L__law_by_keys_7 : M Dk Fl := (mSeq (mPar 11 12 (mShr C__law_by_keys_3) (mLst mNil)) (mSeq (mFor (srcSeq (mVar 3)) (.nm 8) L__law_by_keys_5) (mSet 3 (mShr C__law_by_keys_6))))
noncomputable def B__law_by_keys : M Dk Fl := (mSeq (mPar 5 6 (mCall F__law_columns (mCons (mVar 0) (mCons (mVar 2) mNil))) mDNew) (mSeq (mFor (srcEnumT (mOp opIx (mVar 0) (mC (.int 1)))) (.tp [(.nm 7), (.tp [(.nm 9), (.nm 10)])]) L__law_by_keys_2) (mSeq (mAfter 6 (mSet 3 (mShr (mLst (mCons (mTup mNil) mNil))))) (mSeq (mFor (srcSeq (mVar 5)) (.nm 4) L__law_by_keys_7) (mRet (mUn opTuple (mUn opSort (mVar 3))))))))
noncomputable def F__law_by_keys : Fn Dk := mFn 3 15 B__law_by_keys
noncomputable def T__law_may_be (p_law_plot : List (Str × Str) × List (Str × List Str)) (p_law_stock : List (List (List Int))) (p_law_span : List Str) (p_law_columns_here : List Str) (p_law_shelf : List Int) : TM Bool :=
  (bindT (pureT (mkd (p_law_columns_here.zip p_law_shelf) : List (Str × Int))) fun v1 => (bindF (forF (fun i7 b6 => (bindT (pureT (inB i7.2.1 p_law_span : Bool)) fun b8 => if b8 = true then (bindT (pureT false) fun v9 => (bindT (bindT (optT (atI p_law_stock i7.1)) fun l23 => forT (fun i14 b13 => (bindT (pureT (((i7.2.2.zip i14).filter (fun i18 => !eqB ((aget v1 i18.1).getD i18.2) i18.2)).map (fun i18 => 1) : List Int)) fun v15 => (bindT (pureT (b13 || (eqB v15 []) : Bool)) fun v22 => pureT v22))) l23 v9) fun v10 => (bindT (pureT (!v10 : Bool)) fun b24 => if b24 = true then (bindT (pureT false) fun r25 => pureT (.rt r25)) else (pureT (.nx ()))))) else (pureT (.nx ())))) (enumI p_law_plot.2) ()) fun v4 => (pureT true)))
theorem S__law_may_be (p_law_plot : List (Str × Str) × List (Str × List Str)) (p_law_stock : List (List (List Int))) (p_law_span : List Str) (p_law_columns_here : List Str) (p_law_shelf : List Int) {g g' : Dk} {r : Bool} (h : T__law_may_be p_law_plot p_law_stock p_law_span p_law_columns_here p_law_shelf g = some (r, g')) : F__law_may_be [schP p_law_plot, tabsE p_law_stock, eT D.str p_law_span, eT D.str p_law_columns_here, rowE p_law_shelf] g = some (D.bl r, g') := by
  have hb : JB [some (.sh (schP p_law_plot)), some (.sh (tabsE p_law_stock)), some (.sh (eT D.str p_law_span)), some (.sh (eT D.str p_law_columns_here)), some (.sh (rowE p_law_shelf)), none, none, none, none, none, none, none, none, none] B__law_may_be (T__law_may_be p_law_plot p_law_stock p_law_span p_law_columns_here p_law_shelf) D.bl := by
    unfold T__law_may_be B__law_may_be
    exact (sb_seq (sn_set (Γ1 := [some (.sh (schP p_law_plot)), some (.sh (tabsE p_law_stock)), some (.sh (eT D.str p_law_span)), some (.sh (eT D.str p_law_columns_here)), some (.sh (rowE p_law_shelf)), none, none, none, none, none, none, none, none, none]) (ea := eK D.int) (Γ' := fun v1 => [some (.sh (schP p_law_plot)), some (.sh (tabsE p_law_stock)), some (.sh (eT D.str p_law_span)), some (.sh (eT D.str p_law_columns_here)), some (.sh (rowE p_law_shelf)), some (.sh (eK D.int v1)), none, none, none, none, none, none, none, none]) (en_shr (EN.tk (en_dictZipV (eb := D.int) (EN.tk (en_var (eT D.str) p_law_columns_here rfl)) (EN.tk (en_var rowE p_law_shelf rfl))))) (lt_b rfl) (fun _ => rfl)) (fun v1 => (sb_seqF (sf_forV (Γb := fun b6 => [some (.sh (schP p_law_plot)), some (.sh (tabsE p_law_stock)), some (.sh (eT D.str p_law_span)), some (.sh (eT D.str p_law_columns_here)), some (.sh (rowE p_law_shelf)), some (.sh (eK D.int v1)), none, none, none, none, none, none, none, none]) (Γab := fun i7 b6 => [some (.sh (schP p_law_plot)), some (.sh (tabsE p_law_stock)), some (.sh (eT D.str p_law_span)), some (.sh (eT D.str p_law_columns_here)), some (.sh (rowE p_law_shelf)), some (.sh (eK D.int v1)), some (.sh (D.int i7.1)), some (.sh (D.str i7.2.1)), some (.sh (eT D.str i7.2.2)), none, none, none, none, none]) (b0 := ()) (ea := eP D.int headE) (er := D.bl) (ei_enumTV (ea := headE) (EN.tk (en_opV (z := p_law_plot.2) (ec := eT headE) (EN.pk (en_var schP p_law_plot rfl)) (EN.pk (en_c D.int 1 rfl)) (ix21 _ _)))) (.s (.s (.s (.s (.s (.s (.n (.n (.n (.n (.n (.n (.n (.n .nil)))))))))))))) (fun i7 b6 => (as_tp rfl (as_cons (as_nm (lt_b rfl) rfl) (as_cons (as_tp rfl (as_cons (as_nm (lt_b rfl) rfl) (as_cons (as_nm (lt_b rfl) rfl) as_nil))) as_nil)))) (fun i7 b6 => (sf_if (eb_test (en_opV (z := inB i7.2.1 p_law_span) (ec := D.bl) (EN.pk (en_var D.str i7.2.1 rfl)) (EN.pk (en_var (eT D.str) p_law_span rfl)) (o_inT (e := D.str) _ _))) (sf_seq (sn_set (Γ1 := [some (.sh (schP p_law_plot)), some (.sh (tabsE p_law_stock)), some (.sh (eT D.str p_law_span)), some (.sh (eT D.str p_law_columns_here)), some (.sh (rowE p_law_shelf)), some (.sh (eK D.int v1)), some (.sh (D.int i7.1)), some (.sh (D.str i7.2.1)), some (.sh (eT D.str i7.2.2)), none, none, none, none, none]) (ea := D.bl) (Γ' := fun v9 => [some (.sh (schP p_law_plot)), some (.sh (tabsE p_law_stock)), some (.sh (eT D.str p_law_span)), some (.sh (eT D.str p_law_columns_here)), some (.sh (rowE p_law_shelf)), some (.sh (eK D.int v1)), some (.sh (D.int i7.1)), some (.sh (D.str i7.2.1)), some (.sh (eT D.str i7.2.2)), some (.sh (D.bl v9)), none, none, none, none]) (en_c D.bl false rfl) (lt_b rfl) (fun _ => rfl)) (fun v9 => (sf_seq (sn_for (Γb := fun b13 => [some (.sh (schP p_law_plot)), some (.sh (tabsE p_law_stock)), some (.sh (eT D.str p_law_span)), some (.sh (eT D.str p_law_columns_here)), some (.sh (rowE p_law_shelf)), some (.sh (eK D.int v1)), some (.sh (D.int i7.1)), some (.sh (D.str i7.2.1)), some (.sh (eT D.str i7.2.2)), some (.sh (D.bl b13)), none, none, none, none]) (Γab := fun i14 b13 => [some (.sh (schP p_law_plot)), some (.sh (tabsE p_law_stock)), some (.sh (eT D.str p_law_span)), some (.sh (eT D.str p_law_columns_here)), some (.sh (rowE p_law_shelf)), some (.sh (eK D.int v1)), some (.sh (D.int i7.1)), some (.sh (D.str i7.2.1)), some (.sh (eT D.str i7.2.2)), some (.sh (D.bl b13)), some (.sh (rowE i14)), none, none, none]) (b0 := v9) (ea := rowE) (ei_seqT (ea := rowE) (EN.tk (en_opP (f := atI) (ec := tabE) (EN.pk (en_var tabsE p_law_stock rfl)) (EN.pk (en_var D.int i7.1 rfl)) (o_ixT (e := tabE))))) (.s (.s (.s (.s (.s (.s (.s (.s (.s (.s (.n (.n (.n (.n .nil)))))))))))))) (fun i14 b13 => (as_nm (lt_b rfl) rfl)) (fun i14 b13 => (sn_seq (sn_set (Γ1 := [some (.sh (schP p_law_plot)), some (.sh (tabsE p_law_stock)), some (.sh (eT D.str p_law_span)), some (.sh (eT D.str p_law_columns_here)), some (.sh (rowE p_law_shelf)), some (.sh (eK D.int v1)), some (.sh (D.int i7.1)), some (.sh (D.str i7.2.1)), some (.sh (eT D.str i7.2.2)), some (.sh (D.bl b13)), some (.sh (rowE i14)), none, none, none]) (ea := eL D.int) (Γ' := fun v15 => [some (.sh (schP p_law_plot)), some (.sh (tabsE p_law_stock)), some (.sh (eT D.str p_law_span)), some (.sh (eT D.str p_law_columns_here)), some (.sh (rowE p_law_shelf)), some (.sh (eK D.int v1)), some (.sh (D.int i7.1)), some (.sh (D.str i7.2.1)), some (.sh (eT D.str i7.2.2)), some (.sh (D.bl b13)), some (.sh (rowE i14)), some (.sh (eL D.int v15)), none, none]) (en_shr (EN.tk (en_lcV (Γa := fun i18 => [some (.sh (schP p_law_plot)), some (.sh (tabsE p_law_stock)), some (.sh (eT D.str p_law_span)), some (.sh (eT D.str p_law_columns_here)), some (.sh (rowE p_law_shelf)), some (.sh (eK D.int v1)), some (.sh (D.int i7.1)), some (.sh (D.str i7.2.1)), some (.sh (eT D.str i7.2.2)), some (.sh (D.bl b13)), some (.sh (rowE i14)), none, some (.sh (D.str i18.1)), some (.sh (D.int i18.2))]) (ea := eP D.str D.int) (eb := D.int) (ei_zipTV (ea := D.str) (eb := D.int) (EN.tk (en_var (eT D.str) i7.2.2 rfl)) (EN.tk (en_var rowE i14 rfl))) rfl (fun i18 => (as_tp rfl (as_cons (as_nm (lt_b rfl) rfl) (as_cons (as_nm (lt_b rfl) rfl) as_nil)))) (fun _ => rfl) (fun i18 => (eb_test (en_opV (z := !eqB ((aget v1 i18.1).getD i18.2) i18.2) (ec := D.bl) (EN.pk (en_get2V (ea := D.int) (EN.pk (en_var (eK D.int) v1 rfl)) (EN.pk (en_var D.str i18.1 rfl)) (EN.tk (en_var D.int i18.2 rfl)))) (EN.pk (en_var D.int i18.2 rfl)) (o_ne (e := D.int) _ _)))) (fun i18 => (EN.tk (en_c D.int 1 rfl)))))) (lt_b rfl) (fun _ => rfl)) (fun v15 => (sn_wk (f := fun v22 => v22) (sn_set (Γ1 := [some (.sh (schP p_law_plot)), some (.sh (tabsE p_law_stock)), some (.sh (eT D.str p_law_span)), some (.sh (eT D.str p_law_columns_here)), some (.sh (rowE p_law_shelf)), some (.sh (eK D.int v1)), some (.sh (D.int i7.1)), some (.sh (D.str i7.2.1)), some (.sh (eT D.str i7.2.2)), some (.sh (D.bl b13)), some (.sh (rowE i14)), some (.sh (eL D.int v15)), none, none]) (ea := D.bl) (Γ' := fun v22 => [some (.sh (schP p_law_plot)), some (.sh (tabsE p_law_stock)), some (.sh (eT D.str p_law_span)), some (.sh (eT D.str p_law_columns_here)), some (.sh (rowE p_law_shelf)), some (.sh (eK D.int v1)), some (.sh (D.int i7.1)), some (.sh (D.str i7.2.1)), some (.sh (eT D.str i7.2.2)), some (.sh (D.bl v22)), some (.sh (rowE i14)), some (.sh (eL D.int v15)), none, none]) (en_shr (EN.tk (en_orVV (en_var D.bl b13 rfl) (en_opV (z := eqB v15 []) (ec := D.bl) (EN.pk (en_var (eL D.int) v15 rfl)) (EN.pk (en_lstV (z := []) (ec := eL D.int) ea_nil rfl (le_b rfl))) (o_eq (e := (eL D.int)) _ _))))) (lt_b rfl) (fun _ => rfl)) (fun v22 => (.s (.s (.s (.s (.s (.s (.s (.s (.s (.s (.n (.n (.n (.n .nil)))))))))))))))))))) (fun v10 => (sf_if (eb_notV (eb_test (en_var D.bl v10 rfl))) (sf_sb (sb_ret (EN.tk (en_c D.bl false rfl)))) (sf_sn0 (sn_next (b := ()) (.s (.s (.s (.s (.s (.s (.n (.n (.n (.n (.n (.n (.n (.n .nil))))))))))))))))))))) (sf_sn0 (sn_next (b := ()) (.s (.s (.s (.s (.s (.s (.n (.n (.n (.n (.n (.n (.n (.n .nil))))))))))))))))))) (fun v4 => (sb_ret (EN.tk (en_c D.bl true rfl)))))))
  exact fn_ok hb rfl rfl h
noncomputable def T__law_by_keys (p_law_plot : List (Str × Str) × List (Str × List Str)) (p_law_stock : List (List (List Int))) (p_law_span : List Str) : TM (List (List Int)) :=
  (bindT (bindT (callT F__law_columns (eT D.str) [schP p_law_plot, eT D.str p_law_span]) fun x2 => bindT (pureT ([] : List ((Str × Int) × Bool))) fun y3 => pureT (x2, y3)) fun v1 => (bindT (forT (fun i7 b6 => (bindT (bindT (optT (atI p_law_stock i7.1)) fun l21 => forT (fun i12 b11 => (bindT (forT (fun i17 b16 => (bindT (bindT (pureT true) fun x19 => bindT (pureT ((i17.1, i17.2) : Str × Int)) fun y20 => optT (gputT b16 y20 x19)) fun v18 => pureT v18)) (i7.2.2.zip i12) b11) fun v13 => pureT v13)) l21 b6) fun v8 => pureT v8)) (enumI p_law_plot.2) v1.2) fun v4 => (bindT (pureT ([[]] : List (List Int))) fun v22 => (bindT (forT (fun i25 b24 => (bindT (bindT (bindT (optT (keysN v4)) fun l28 => compT (fun i27 => (pureT (eqB i27.1 i25 : Bool))) (fun i27 => (pureT i27.2)) l28) fun x29 => bindT (pureT ([] : List (List Int))) fun y30 => pureT (x29, y30)) fun v26 => (bindT (forT (fun i33 b32 => (bindT (bindT (mapT (fun i35 => (optT (catT i33 [i35]))) v26.1) fun x38 => optT (catT b32 x38)) fun v34 => pureT v34)) b24 v26.2) fun v31 => (bindT (compT (fun i40 => (callT F__law_may_be D.bl [schP p_law_plot, tabsE p_law_stock, eT D.str p_law_span, eT D.str (cutT v1.1 none (some (i40.length : Int))), rowE i40])) (fun i40 => (pureT i40)) v31) fun v39 => pureT v39)))) v1.1 v22) fun v23 => (pureT ((srtE rowE v23) : List (List Int)))))))
theorem S__law_by_keys (p_law_plot : List (Str × Str) × List (Str × List Str)) (p_law_stock : List (List (List Int))) (p_law_span : List Str) {g g' : Dk} {r : List (List Int)} (h : T__law_by_keys p_law_plot p_law_stock p_law_span g = some (r, g')) : F__law_by_keys [schP p_law_plot, tabsE p_law_stock, eT D.str p_law_span] g = some (rowsE r, g') := by
  have hb : JB [some (.sh (schP p_law_plot)), some (.sh (tabsE p_law_stock)), some (.sh (eT D.str p_law_span)), none, none, none, none, none, none, none, none, none, none, none, none] B__law_by_keys (T__law_by_keys p_law_plot p_law_stock p_law_span) rowsE := by
    unfold T__law_by_keys B__law_by_keys
    exact (sb_seq (jn_par (Γ2 := [some (.sh (schP p_law_plot)), some (.sh (tabsE p_law_stock)), some (.sh (eT D.str p_law_span)), none, none, none, none, none, none, none, none, none, none, none, none]) (ea := eT D.str) (eb := eDn spE D.bl) (Γ' := fun v1 => [some (.sh (schP p_law_plot)), some (.sh (tabsE p_law_stock)), some (.sh (eT D.str p_law_span)), none, none, some (.sh (eT D.str v1.1)), some (.ow (eDn spE D.bl v1.2)), none, none, none, none, none, none, none, none]) (en_callV (ea_consV (EN.tk (en_var schP p_law_plot rfl)) (ea_consV (EN.tk (en_var (eT D.str) p_law_span rfl)) ea_nil)) rfl) (en_dnewN (eDn spE D.bl) [] rfl) (lt_b rfl) (lt_b rfl) (fun _ => rfl)) (fun v1 => (sb_seq (sn_forV (Γb := fun b6 => [some (.sh (schP p_law_plot)), some (.sh (tabsE p_law_stock)), some (.sh (eT D.str p_law_span)), none, none, some (.sh (eT D.str v1.1)), some (.ow (eDn spE D.bl b6)), none, none, none, none, none, none, none, none]) (Γab := fun i7 b6 => [some (.sh (schP p_law_plot)), some (.sh (tabsE p_law_stock)), some (.sh (eT D.str p_law_span)), none, none, some (.sh (eT D.str v1.1)), some (.ow (eDn spE D.bl b6)), some (.sh (D.int i7.1)), none, some (.sh (D.str i7.2.1)), some (.sh (eT D.str i7.2.2)), none, none, none, none]) (b0 := v1.2) (ea := eP D.int headE) (ei_enumTV (ea := headE) (EN.tk (en_opV (z := p_law_plot.2) (ec := eT headE) (EN.pk (en_var schP p_law_plot rfl)) (EN.pk (en_c D.int 1 rfl)) (ix21 _ _)))) (.s (.s (.s (.n (.n (.s (.s (.n (.n (.n (.n (.n (.n (.n (.n .nil))))))))))))))) (fun i7 b6 => (as_tp rfl (as_cons (as_nm (lt_b rfl) rfl) (as_cons (as_tp rfl (as_cons (as_nm (lt_b rfl) rfl) (as_cons (as_nm (lt_b rfl) rfl) as_nil))) as_nil)))) (fun i7 b6 => (sn_wk (f := fun v8 => v8) (sn_for (Γb := fun b11 => [some (.sh (schP p_law_plot)), some (.sh (tabsE p_law_stock)), some (.sh (eT D.str p_law_span)), none, none, some (.sh (eT D.str v1.1)), some (.ow (eDn spE D.bl b11)), some (.sh (D.int i7.1)), none, some (.sh (D.str i7.2.1)), some (.sh (eT D.str i7.2.2)), none, none, none, none]) (Γab := fun i12 b11 => [some (.sh (schP p_law_plot)), some (.sh (tabsE p_law_stock)), some (.sh (eT D.str p_law_span)), none, none, some (.sh (eT D.str v1.1)), some (.ow (eDn spE D.bl b11)), some (.sh (D.int i7.1)), some (.sh (rowE i12)), some (.sh (D.str i7.2.1)), some (.sh (eT D.str i7.2.2)), none, none, none, none]) (b0 := b6) (ea := rowE) (ei_seqT (ea := rowE) (EN.tk (en_opP (f := atI) (ec := tabE) (EN.pk (en_var tabsE p_law_stock rfl)) (EN.pk (en_var D.int i7.1 rfl)) (o_ixT (e := tabE))))) (.s (.s (.s (.n (.n (.s (.s (.s (.n (.s (.s (.n (.n (.n (.n .nil))))))))))))))) (fun i12 b11 => (as_nm (lt_b rfl) rfl)) (fun i12 b11 => (sn_wk (f := fun v13 => v13) (sn_forV (Γb := fun b16 => [some (.sh (schP p_law_plot)), some (.sh (tabsE p_law_stock)), some (.sh (eT D.str p_law_span)), none, none, some (.sh (eT D.str v1.1)), some (.ow (eDn spE D.bl b16)), some (.sh (D.int i7.1)), some (.sh (rowE i12)), some (.sh (D.str i7.2.1)), some (.sh (eT D.str i7.2.2)), none, none, none, none]) (Γab := fun i17 b16 => [some (.sh (schP p_law_plot)), some (.sh (tabsE p_law_stock)), some (.sh (eT D.str p_law_span)), none, some (.sh (D.str i17.1)), some (.sh (eT D.str v1.1)), some (.ow (eDn spE D.bl b16)), some (.sh (D.int i7.1)), some (.sh (rowE i12)), some (.sh (D.str i7.2.1)), some (.sh (eT D.str i7.2.2)), none, none, some (.sh (D.int i17.2)), none]) (b0 := b11) (ea := eP D.str D.int) (ei_zipTV (ea := D.str) (eb := D.int) (EN.tk (en_var (eT D.str) i7.2.2 rfl)) (EN.tk (en_var rowE i12 rfl))) (.s (.s (.s (.n (.n (.s (.s (.s (.s (.s (.s (.n (.n (.n (.n .nil))))))))))))))) (fun i17 b16 => (as_tp rfl (as_cons (as_nm (lt_b rfl) rfl) (as_cons (as_nm (lt_b rfl) rfl) as_nil)))) (fun i17 b16 => (sn_wk (f := fun v18 => v18) (jn_dputN (ek := spE) (ev := D.bl) (Γ' := fun v18 => [some (.sh (schP p_law_plot)), some (.sh (tabsE p_law_stock)), some (.sh (eT D.str p_law_span)), none, some (.sh (D.str i17.1)), some (.sh (eT D.str v1.1)), some (.ow (eDn spE D.bl v18)), some (.sh (D.int i7.1)), some (.sh (rowE i12)), some (.sh (D.str i7.2.1)), some (.sh (eT D.str i7.2.2)), none, none, some (.sh (D.int i17.2)), none]) (x := b16) rfl (EN.tk (en_c D.bl true rfl)) (EN.pk (en_tupV (z := (i17.1, i17.2)) (ec := spE) (ea_consV (EN.tk (en_var D.str i17.1 rfl)) (ea_consV (EN.tk (en_var D.int i17.2 rfl)) ea_nil)) rfl (le_b rfl))) (fun _ => rfl)) (fun v18 => (.s (.s (.s (.n (.n (.s (.s (.s (.s (.s (.s (.n (.n (.n (.n .nil))))))))))))))))))) (fun v13 => (.s (.s (.s (.n (.n (.s (.s (.s (.n (.s (.s (.n (.n (.n (.n .nil))))))))))))))))))) (fun v8 => (.s (.s (.s (.n (.n (.s (.s (.n (.n (.n (.n (.n (.n (.n (.n .nil))))))))))))))))))) (fun v4 => (sb_seq (jn_afterS (i := 6) (d := fun v22 => eDn spE D.bl v4) (Γ' := fun v22 => [some (.sh (schP p_law_plot)), some (.sh (tabsE p_law_stock)), some (.sh (eT D.str p_law_span)), some (.sh (eL rowE v22)), none, some (.sh (eT D.str v1.1)), some (.ow (eDn spE D.bl v4)), none, none, none, none, none, none, none, none]) (Γ'' := fun v22 => [some (.sh (schP p_law_plot)), some (.sh (tabsE p_law_stock)), some (.sh (eT D.str p_law_span)), some (.sh (eL rowE v22)), none, some (.sh (eT D.str v1.1)), some (.sh (eDn spE D.bl v4)), none, none, none, none, none, none, none, none]) (sn_set (Γ1 := [some (.sh (schP p_law_plot)), some (.sh (tabsE p_law_stock)), some (.sh (eT D.str p_law_span)), none, none, some (.sh (eT D.str v1.1)), some (.ow (eDn spE D.bl v4)), none, none, none, none, none, none, none, none]) (ea := eL rowE) (Γ' := fun v22 => [some (.sh (schP p_law_plot)), some (.sh (tabsE p_law_stock)), some (.sh (eT D.str p_law_span)), some (.sh (eL rowE v22)), none, some (.sh (eT D.str v1.1)), some (.ow (eDn spE D.bl v4)), none, none, none, none, none, none, none, none]) (en_shr (EN.tk (en_lstV (z := [[]]) (ec := eL rowE) (ea_consV (EN.tk (en_tupV (z := []) (ec := rowE) ea_nil rfl (le_b rfl))) ea_nil) rfl (le_b rfl)))) (lt_b rfl) (fun _ => rfl)) (fun _ => rfl) (fun _ => rfl)) (fun v22 => (sb_seq (sn_forV (Γb := fun b24 => [some (.sh (schP p_law_plot)), some (.sh (tabsE p_law_stock)), some (.sh (eT D.str p_law_span)), some (.sh (eL rowE b24)), none, some (.sh (eT D.str v1.1)), some (.sh (eDn spE D.bl v4)), none, none, none, none, none, none, none, none]) (Γab := fun i25 b24 => [some (.sh (schP p_law_plot)), some (.sh (tabsE p_law_stock)), some (.sh (eT D.str p_law_span)), some (.sh (eL rowE b24)), some (.sh (D.str i25)), some (.sh (eT D.str v1.1)), some (.sh (eDn spE D.bl v4)), none, none, none, none, none, none, none, none]) (b0 := v22) (ea := D.str) (ei_seqT (ea := D.str) (EN.tk (en_var (eT D.str) v1.1 rfl))) (.s (.s (.s (.s (.n (.s (.s (.n (.n (.n (.n (.n (.n (.n (.n .nil))))))))))))))) (fun i25 b24 => (as_nm (lt_b rfl) rfl)) (fun i25 b24 => (sn_seq (jn_par (Γ2 := [some (.sh (schP p_law_plot)), some (.sh (tabsE p_law_stock)), some (.sh (eT D.str p_law_span)), some (.sh (eL rowE b24)), some (.sh (D.str i25)), some (.sh (eT D.str v1.1)), some (.sh (eDn spE D.bl v4)), none, none, none, none, none, none, none, none]) (ea := eL D.int) (eb := eL rowE) (Γ' := fun v26 => [some (.sh (schP p_law_plot)), some (.sh (tabsE p_law_stock)), some (.sh (eT D.str p_law_span)), some (.sh (eL rowE b24)), some (.sh (D.str i25)), some (.sh (eT D.str v1.1)), some (.sh (eDn spE D.bl v4)), none, none, none, none, some (.sh (eL D.int v26.1)), some (.ow (eL rowE v26.2)), none, none]) (en_shr (EN.tk (en_lcN (Γk := fun i27 => [some (.sh (schP p_law_plot)), some (.sh (tabsE p_law_stock)), some (.sh (eT D.str p_law_span)), some (.sh (eL rowE b24)), some (.sh (D.str i25)), some (.sh (eT D.str v1.1)), some (.sh (eDn spE D.bl v4)), none, none, none, none, none, none, some (.sh (D.int i27.2)), some (.sh (D.str i27.1))]) (eb := D.int) (ek := spE) (ev := D.bl) (x := v4) rfl rfl (fun i27 => (as_tp rfl (as_cons (as_nm (lt_b rfl) rfl) (as_cons (as_nm (lt_b rfl) rfl) as_nil)))) (fun _ => rfl) (fun i27 => (eb_test (en_opV (z := eqB i27.1 i25) (ec := D.bl) (EN.pk (en_var D.str i27.1 rfl)) (EN.pk (en_var D.str i25 rfl)) (o_eq (e := D.str) _ _)))) (fun i27 => (EN.tk (en_var D.int i27.2 rfl)))))) (en_lstV (z := []) (ec := eL rowE) ea_nil rfl (le_b rfl)) (lt_b rfl) (lt_b rfl) (fun _ => rfl)) (fun v26 => (sn_seq (sn_forV (Γb := fun b32 => [some (.sh (schP p_law_plot)), some (.sh (tabsE p_law_stock)), some (.sh (eT D.str p_law_span)), some (.sh (eL rowE b24)), some (.sh (D.str i25)), some (.sh (eT D.str v1.1)), some (.sh (eDn spE D.bl v4)), none, none, none, none, some (.sh (eL D.int v26.1)), some (.ow (eL rowE b32)), none, none]) (Γab := fun i33 b32 => [some (.sh (schP p_law_plot)), some (.sh (tabsE p_law_stock)), some (.sh (eT D.str p_law_span)), some (.sh (eL rowE b24)), some (.sh (D.str i25)), some (.sh (eT D.str v1.1)), some (.sh (eDn spE D.bl v4)), none, some (.sh (rowE i33)), none, none, some (.sh (eL D.int v26.1)), some (.ow (eL rowE b32)), none, none]) (b0 := v26.2) (ea := rowE) (ei_seqL (ea := rowE) (EN.tk (en_var (eL rowE) b24 rfl))) (.s (.s (.s (.s (.s (.s (.s (.n (.n (.n (.n (.s (.s (.n (.n .nil))))))))))))))) (fun i33 b32 => (as_nm (lt_b rfl) rfl)) (fun i33 b32 => (sn_wk (f := fun v34 => v34) (jn_meth (Γ' := fun v34 => [some (.sh (schP p_law_plot)), some (.sh (tabsE p_law_stock)), some (.sh (eT D.str p_law_span)), some (.sh (eL rowE b24)), some (.sh (D.str i25)), some (.sh (eT D.str v1.1)), some (.sh (eDn spE D.bl v4)), none, some (.sh (rowE i33)), none, none, some (.sh (eL D.int v26.1)), some (.ow (eL rowE v34)), none, none]) (x := b32) (f := catT) (el := rowE) rfl (EN.tk (en_mapS (Γa := fun i35 => [some (.sh (schP p_law_plot)), some (.sh (tabsE p_law_stock)), some (.sh (eT D.str p_law_span)), some (.sh (eL rowE b24)), some (.sh (D.str i25)), some (.sh (eT D.str v1.1)), some (.sh (eDn spE D.bl v4)), none, some (.sh (rowE i33)), none, none, some (.sh (eL D.int v26.1)), some (.ow (eL rowE b32)), some (.sh (D.int i35)), none]) (ea := D.int) (eb := rowE) (ei_seqL (ea := D.int) (EN.tk (en_var (eL D.int) v26.1 rfl))) rfl (fun i35 => (as_nm (lt_b rfl) rfl)) (fun _ => rfl) (fun i35 => (EN.tk (en_opP (f := catT) (ec := rowE) (EN.pk (en_var rowE i33 rfl)) (EN.pk (en_tupV (z := [i35]) (ec := rowE) (ea_consV (EN.tk (en_var D.int i35 rfl)) ea_nil) rfl (le_b rfl))) (o_catT (e := D.int))))))) (o_extL (e := rowE)) (fun _ => rfl)) (fun v34 => (.s (.s (.s (.s (.s (.s (.s (.n (.n (.n (.n (.s (.s (.n (.n .nil))))))))))))))))))) (fun v31 => (sn_wk (f := fun v39 => v39) (sn_set (Γ1 := [some (.sh (schP p_law_plot)), some (.sh (tabsE p_law_stock)), some (.sh (eT D.str p_law_span)), some (.sh (eL rowE b24)), some (.sh (D.str i25)), some (.sh (eT D.str v1.1)), some (.sh (eDn spE D.bl v4)), none, none, none, none, some (.sh (eL D.int v26.1)), some (.sh (eL rowE v31)), none, none]) (ea := eL rowE) (Γ' := fun v39 => [some (.sh (schP p_law_plot)), some (.sh (tabsE p_law_stock)), some (.sh (eT D.str p_law_span)), some (.sh (eL rowE v39)), some (.sh (D.str i25)), some (.sh (eT D.str v1.1)), some (.sh (eDn spE D.bl v4)), none, none, none, none, some (.sh (eL D.int v26.1)), some (.sh (eL rowE v31)), none, none]) (en_shr (EN.tk (en_lcS (Γa := fun i40 => [some (.sh (schP p_law_plot)), some (.sh (tabsE p_law_stock)), some (.sh (eT D.str p_law_span)), some (.sh (eL rowE b24)), some (.sh (D.str i25)), some (.sh (eT D.str v1.1)), some (.sh (eDn spE D.bl v4)), none, some (.sh (rowE i40)), none, none, some (.sh (eL D.int v26.1)), some (.sh (eL rowE v31)), none, none]) (ea := rowE) (eb := rowE) (ei_seqL (ea := rowE) (et_own (eL rowE) v31 rfl)) rfl (fun i40 => (as_nm (lt_b rfl) rfl)) (fun _ => rfl) (fun i40 => (eb_test (en_callV (ea_consV (EN.tk (en_var schP p_law_plot rfl)) (ea_consV (EN.tk (en_var tabsE p_law_stock rfl)) (ea_consV (EN.tk (en_var (eT D.str) p_law_span rfl)) (ea_consV (EN.tk (en_slV (z := cutT v1.1 none (some (i40.length : Int))) (ec := eT D.str) (EN.pk (en_var (eT D.str) v1.1 rfl)) po_noneT (po_someV (en_unV (z := (i40.length : Int)) (ec := D.int) (EN.pk (en_var rowE i40 rfl)) (o_lenT (e := D.int) _))) (o_cutT (e := D.str) _ _ _))) (ea_consV (EN.tk (en_var rowE i40 rfl)) ea_nil))))) rfl))) (fun i40 => (EN.tk (en_var rowE i40 rfl)))))) (lt_b rfl) (fun _ => rfl)) (fun v39 => (.s (.s (.s (.s (.n (.s (.s (.n (.n (.n (.n (.n (.n (.n (.n .nil))))))))))))))))))))))) (fun v23 => (sb_ret (EN.tk (en_unV (z := (srtE rowE v23)) (ec := rowsE) (EN.pk (en_unV (z := srtE rowE v23) (ec := eL rowE) (EN.pk (en_var (eL rowE) v23 rfl)) (o_sortL (e := rowE) _))) (o_tupL (e := rowE) _))))))))))))
  exact fn_ok hb rfl rfl h
end DL
namespace DL
open PySem PySem.Spec PyProof.Rows L2
/-! ### things gone through with their number -/
theorem mem_enumI {α : Type} {l : List α} {a : Int × α} : a ∈ enumI l ↔ ∃ k : Nat, l[k]? = some a.2 ∧ a.1 = (k : Int) := by
  unfold enumI
  rw [List.mem_mapIdx]
  constructor
  · rintro ⟨i, h, rfl⟩
    exact ⟨i, by simp [List.getElem?_eq_getElem h], rfl⟩
  · rintro ⟨k, h, e⟩
    have hk := (List.getElem?_eq_some_iff.mp h).1
    refine ⟨k, hk, ?_⟩
    have := (List.getElem?_eq_some_iff.mp h).2
    rw [this, ← e]
theorem atI_nat {α : Type} {l : List α} {k : Nat} {x : α} (h : l[k]? = some x) : atI l (k : Int) = some x := by
  have hk := (List.getElem?_eq_some_iff.mp h).1
  obtain ⟨y, h1, h2⟩ := atI_some (l := l) (i := (k : Int)) (by omega) (by omega)
  rw [Int.toNat_natCast] at h2
  rw [h1, ← h2, h]
theorem mem_zip_at {α β : Type} {l : List α} {m : List β} {p : α × β} : p ∈ l.zip m ↔ ∃ k : Nat, l[k]? = some p.1 ∧ m[k]? = some p.2 := by
  rw [List.mem_iff_getElem?]
  exact ⟨fun ⟨k, h⟩ => ⟨k, List.getElem?_zip_eq_some.mp h⟩, fun ⟨k, h⟩ => ⟨k, List.getElem?_zip_eq_some.mpr h⟩⟩
theorem nodup_many {α : Type} : ∀ {a L : List α}, a.Nodup → (∀ x ∈ a, x ∈ L) → a.length ≤ L.length
  | [], _, _, _ => Nat.zero_le _
  | x :: a, L, h, hs => by
    obtain ⟨A, B, rfl⟩ := List.append_of_mem (hs x List.mem_cons_self)
    have hn := (List.nodup_cons.mp h)
    have := nodup_many (a := a) (L := A ++ B) hn.2 fun y hy => by
      have := hs y (List.mem_cons_of_mem _ hy)
      simp only [List.mem_append, List.mem_cons] at this ⊢
      rcases this with h | h | h
      · exact .inl h
      · exact absurd (h ▸ hy) hn.1
      · exact .inr h
    simp only [List.length_append, List.length_cons] at this ⊢
    omega
/-! ### spots put into a dict -/
section
variable {κ : Type}
structure Puts (S : List κ) (l l' : List (κ × Bool)) : Prop where
  nd : (l.map (·.1)).Nodup → (l'.map (·.1)).Nodup
  mem : ∀ x, x ∈ l'.map (·.1) ↔ x ∈ l.map (·.1) ∨ x ∈ S
  len : l'.length ≤ l.length + S.length
theorem Puts.nil (l : List (κ × Bool)) : Puts [] l l := ⟨id, fun x => by simp, by simp⟩
theorem Puts.trans {S T : List κ} {l l1 l2 : List (κ × Bool)} (h1 : Puts S l l1) (h2 : Puts T l1 l2) : Puts (S ++ T) l l2 :=
  ⟨fun h => h2.nd (h1.nd h), fun x => by rw [h2.mem, h1.mem, List.mem_append, or_assoc], by have := h1.len; have := h2.len; rw [List.length_append]; omega⟩
theorem puts_one {l : List (κ × Bool)} {k : κ} {b : Bool} : Puts [k] l (gput l k b) := ⟨gput_nodup, fun x => by rw [gput_keys]; simp [or_comm], by have := gput_len l k b; simpa using this⟩
theorem forT_puts {α : Type} {mb : α → List (κ × Bool) → TM (List (κ × Bool))} {S : α → List κ} {B : Nat} : ∀ {A : List α}, (∀ a ∈ A, (S a).length ≤ B) → (∀ a ∈ A, ∀ l, l.length + B ≤ 1000000 → ∃ l', mb a l = pureT l' ∧ Puts (S a) l l') →
    ∀ l, l.length + A.length * B ≤ 1000000 → ∃ l', forT mb A l = pureT l' ∧ Puts (A.flatMap S) l l'
  | [], _, _, l, _ => ⟨l, rfl, Puts.nil l⟩
  | a :: A, hb, h, l, hl => by
    rw [List.length_cons, Nat.succ_mul] at hl
    obtain ⟨l1, e1, p1⟩ := h a List.mem_cons_self l (by omega)
    have := p1.len
    have := hb a List.mem_cons_self
    obtain ⟨l2, e2, p2⟩ := forT_puts (fun a ha => hb a (List.mem_cons_of_mem _ ha)) (fun a ha => h a (List.mem_cons_of_mem _ ha)) l1 (by omega)
    refine ⟨l2, ?_, p1.trans p2⟩
    unfold forT
    rw [e1, bindT_pure, e2]
end
section
variable {m : Nat} {dl : List (Str × Str)} {hs : List (Str × List Str)} {ts : List (List (List Int))} {fr : List Str}
/-! ### may these keys be -/
noncomputable def fitsB (known : Rw) (cs : List Str) (r : List Int) : Bool := (cs.zip r).all fun q => eqB ((aget known q.1).getD q.2) q.2
noncomputable def mayB (hs : List (Str × List Str)) (ts : List (List (List Int))) (fr : List Str) (known : Rw) : Bool := (hs.zip ts).all fun p => !(inB p.1.1 fr) || p.2.any fun r => fitsB known p.1.2 r
theorem forT_or {α : Type} {f : α → Bool} : ∀ (l : List α) (b : Bool), forT (fun a b => pureT (b || f a)) l b = pureT (b || l.any f)
  | [], b => by simp [forT]
  | a :: l, b => by unfold forT; rw [bindT_pure, forT_or l, List.any_cons, Bool.or_assoc]
theorem T_may_be_eq (ht : Tabs m hs ts) {cs : List Str} {s : List Int} (hn : cs.Nodup) (hl : cs.length = s.length) : T__law_may_be (dl, hs) ts fr cs s = pureT (mayB hs ts fr (cs.zip s)) := by
  unfold T__law_may_be
  have hlen : ts.length = hs.length := ht.len
  simp only [mkd_zip hn hl, bindT_pure, bindT_bind]
  rw [forF_any (f := fun a : Int × Str × List Str => inB a.2.1 fr && !(((atI ts a.1).getD []).any fun r => fitsB (cs.zip s) a.2.2 r)) (r := false) fun a ha => ?_]
  · have e : ((enumI hs).any fun a : Int × Str × List Str => inB a.2.1 fr && !(((atI ts a.1).getD []).any fun r => fitsB (cs.zip s) a.2.2 r)) = !mayB hs ts fr (cs.zip s) := by
      rw [Bool.eq_iff_iff, List.any_eq_true, Bool.not_eq_true', ← Bool.not_eq_true]
      unfold mayB
      rw [List.all_eq_true]
      constructor
      · rintro ⟨a, ha, h⟩ hall
        obtain ⟨k, h1, h2⟩ := mem_enumI.mp ha
        have hk : k < ts.length := by rw [hlen]; exact (List.getElem?_eq_some_iff.mp h1).1
        have h3 := List.getElem?_eq_getElem hk
        have := hall (a.2, ts[k]) (mem_zip_at.mpr ⟨k, h1, h3⟩)
        rw [h2, atI_nat h3] at h
        simp only [Option.getD_some] at h
        cases hi : inB a.2.1 fr with
        | false => rw [hi] at h; cases h
        | true => rw [hi, Bool.true_and] at h; simp only [hi, Bool.not_true, Bool.false_or] at this; rw [this] at h; cases h
      · intro h
        by_cases hx : ∃ a ∈ enumI hs, (inB a.2.1 fr && !(((atI ts a.1).getD []).any fun r => fitsB (cs.zip s) a.2.2 r)) = true
        · exact hx
        · exfalso
          refine h fun p hp => ?_
          obtain ⟨k, h1, h2⟩ := mem_zip_at.mp hp
          by_cases hz : (!inB p.1.1 fr || p.2.any fun r => fitsB (cs.zip s) p.1.2 r) = true
          · exact hz
          · exfalso
            refine hx ⟨((k : Int), p.1), mem_enumI.mpr ⟨k, h1, rfl⟩, ?_⟩
            simp only [atI_nat h2, Option.getD_some]
            simp only [Bool.not_eq_true, Bool.or_eq_false_iff, Bool.not_eq_false'] at hz
            rw [hz.1, hz.2]; rfl
    rw [e]
    cases mayB hs ts fr (cs.zip s) <;> rfl
  · obtain ⟨k, h1, h2⟩ := mem_enumI.mp ha
    have hk : k < ts.length := by rw [hlen]; exact (List.getElem?_eq_some_iff.mp h1).1
    rw [h2, atI_nat (List.getElem?_eq_getElem hk)]
    simp only [Option.getD_some]
    cases hi : inB a.2.1 fr with
    | false => simp
    | true =>
      simp only [if_true, Bool.true_and, opt_some, bindT_pure]
      have ef : (fun (i14 : List Int) (b13 : Bool) => (pureT (b13 || eqB (((a.2.2.zip i14).filter fun i18 => !eqB ((aget (cs.zip s) i18.1).getD i18.2) i18.2).map fun i18 => (1 : Int)) []) : TM Bool)) = fun r b => pureT (b || fitsB (cs.zip s) a.2.2 r) := by
        funext r b
        have : eqB (((a.2.2.zip r).filter fun i18 => !eqB ((aget (cs.zip s) i18.1).getD i18.2) i18.2).map fun i18 => (1 : Int)) [] = fitsB (cs.zip s) a.2.2 r := by
          rw [Bool.eq_iff_iff, eqB_iff, List.map_eq_nil_iff, List.filter_eq_nil_iff]
          unfold fitsB
          rw [List.all_eq_true]
          simp
        rw [this]
      rw [ef, forT_or, bindT_pure, Bool.false_or]
      cases (ts[k].any fun r => fitsB (cs.zip s) a.2.2 r) <;> simp
theorem c_mayBe (ht : Tabs m hs ts) {cs : List Str} {s : List Int} (hn : cs.Nodup) (hl : cs.length = s.length) : callT F__law_may_be D.bl [schP (dl, hs), tabsE ts, eT D.str fr, eT D.str cs, rowE s] = pureT (mayB hs ts fr (cs.zip s)) := callT_pure fun g => S__law_may_be _ _ _ _ _ (by rw [T_may_be_eq ht hn hl]; rfl)
end
end DL
namespace DL
open PySem PySem.Spec PyProof.Rows L2
section
variable {m : Nat} {dl : List (Str × Str)} {hs : List (Str × List Str)} {ts : List (List (List Int))} {fr : List Str}
/-! ### may be: longer and shorter -/
theorem fits_mono {a b : Rw} {cs : List Str} {r : List Int} (h : ∀ c k, aget a c = some k → aget b c = some k) (hf : fitsB b cs r = true) : fitsB a cs r = true := by
  unfold fitsB at *
  rw [List.all_eq_true] at *
  intro q hq
  have := hf q hq
  rw [eqB_iff] at *
  cases e : aget a q.1 with
  | none => rfl
  | some k => rw [h _ _ e] at this; exact this
theorem may_mono {a b : Rw} (h : ∀ c k, aget a c = some k → aget b c = some k) (hf : mayB hs ts fr b = true) : mayB hs ts fr a = true := by
  unfold mayB at *
  rw [List.all_eq_true] at *
  intro p hp
  have := hf p hp
  rw [Bool.or_eq_true, List.any_eq_true] at *
  exact this.imp id fun ⟨r, hr, hx⟩ => ⟨r, hr, fits_mono h hx⟩
theorem aget_cons {α : Type} (p : Str × α) (l : List (Str × α)) (c : Str) : aget (p :: l) c = if p.1 = c then some p.2 else aget l c := by
  unfold aget
  rw [List.find?_cons]
  by_cases h : p.1 = c
  · simp [h]
  · simp [h]
theorem aget_memN {α : Type} {c : Str} {k : α} : ∀ {l : List (Str × α)}, (l.map (·.1)).Nodup → (c, k) ∈ l → aget l c = some k
  | p :: l, hn, h => by
    rw [List.map_cons, List.nodup_cons] at hn
    rw [aget_cons]
    rcases List.mem_cons.mp h with e | h
    · subst e; simp
    · rw [if_neg fun e => hn.1 (List.mem_map.mpr ⟨_, h, e.symm⟩)]
      exact aget_memN hn.2 h
theorem aget_app {α : Type} {l m : List (Str × α)} {c : Str} {k : α} (h : aget l c = some k) : aget (l ++ m) c = some k := by
  unfold aget at *
  rw [List.find?_append]
  cases e : l.find? fun p => decide (p.1 = c) with
  | none => rw [e] at h; cases h
  | some q => rw [e] at h; simpa using h
/-! ### the keys that the tables tell -/
theorem tell_len (ht : Tabs m hs ts) (hh : Heads dl hs) (hm : m ≤ 6) {p : (Str × List Str) × List (List Int)} (hp : p ∈ hs.zip ts) : (p.2.flatMap fun r => p.1.2.zip r).length ≤ 18 := by
  have T := ht.tab p hp
  have h3 := hh.cfew _ (List.of_mem_zip hp).1
  have : ∀ l : List (List Int), (l.flatMap fun r => p.1.2.zip r).length ≤ 3 * l.length := fun l => by
    induction l with
    | nil => simp
    | cons r l ih => rw [List.flatMap_cons, List.length_append, List.length_cons, List.length_zip]; omega
  have := this p.2
  have := T.few
  omega
noncomputable def putK (b : List (Spot × Bool)) (q : Str × Int) : TM (List (Spot × Bool)) := bindT (bindT (pureT true) fun x19 => bindT (pureT ((q.1, q.2) : Str × Int)) fun y20 => optT (gputT b y20 x19)) fun v18 => pureT v18
theorem putK_eq (b : List (Spot × Bool)) (q : Str × Int) (h : b.length + 1 ≤ 1000000) : ∃ l', putK b q = pureT l' ∧ Puts [q] b l' := by
  unfold putK
  rw [bindT_pure, bindT_pure, gputT_eq (by omega), opt_some, bindT_pure]
  exact ⟨_, rfl, puts_one⟩
theorem keys_told (ht : Tabs m hs ts) (hh : Heads dl hs) (hm : m ≤ 6) :
    ∃ l, forT (fun (i7 : Int × Str × List Str) b6 => bindT (bindT (optT (atI ts i7.1)) fun l21 => forT (fun i12 b11 => bindT (forT (fun i17 b16 => putK b16 i17) (i7.2.2.zip i12) b11) fun v13 => pureT v13) l21 b6) fun v8 => pureT v8) (enumI hs) [] = pureT l ∧ (l.map (·.1)).Nodup ∧ l.length ≤ 72 ∧ ∀ x, x ∈ l.map (·.1) ↔ ∃ p ∈ hs.zip ts, ∃ r ∈ p.2, x ∈ p.1.2.zip r := by
  have hlen : ts.length = hs.length := ht.len
  have hel : (enumI hs).length = hs.length := by unfold enumI; rw [List.length_mapIdx]
  have h4 := hh.few
  obtain ⟨l, e, p⟩ := forT_puts (mb := fun (i7 : Int × Str × List Str) b6 => bindT (bindT (optT (atI ts i7.1)) fun l21 => forT (fun i12 b11 => bindT (forT (fun i17 b16 => putK b16 i17) (i7.2.2.zip i12) b11) fun v13 => pureT v13) l21 b6) fun v8 => pureT v8)
    (S := fun i7 : Int × Str × List Str => ((atI ts i7.1).getD []).flatMap fun r => i7.2.2.zip r) (B := 18) (A := enumI hs) (fun a ha => by
      obtain ⟨k, h1, h2⟩ := mem_enumI.mp ha
      have hk : k < ts.length := by rw [hlen]; exact (List.getElem?_eq_some_iff.mp h1).1
      have h3 := List.getElem?_eq_getElem hk
      rw [h2, atI_nat h3]
      exact tell_len ht hh hm (p := (a.2, ts[k])) (mem_zip_at.mpr ⟨k, h1, h3⟩)) (fun a ha l hl => by
      obtain ⟨k, h1, h2⟩ := mem_enumI.mp ha
      have hk : k < ts.length := by rw [hlen]; exact (List.getElem?_eq_some_iff.mp h1).1
      have h3 := List.getElem?_eq_getElem hk
      have hp : (a.2, ts[k]) ∈ hs.zip ts := mem_zip_at.mpr ⟨k, h1, h3⟩
      have T := ht.tab _ hp
      have hc3 : a.2.2.length ≤ 3 := hh.cfew _ (List.of_mem_zip hp).1
      have hfew : ts[k].length ≤ m := T.few
      simp only [h2, atI_nat h3, opt_some, bindT_pure, Option.getD_some]
      obtain ⟨l', e, p⟩ := forT_puts (mb := fun i12 b11 => bindT (forT (fun i17 b16 => putK b16 i17) (a.2.2.zip i12) b11) fun v13 => pureT v13) (S := fun r : List Int => a.2.2.zip r) (B := 3) (A := ts[k]) (fun r hr => by
          show (a.2.2.zip r).length ≤ 3
          rw [List.length_zip]; omega) (fun r hr l hl => by
          have hz : (a.2.2.zip r).length ≤ 3 := by rw [List.length_zip]; omega
          obtain ⟨l', e, p⟩ := forT_puts (mb := fun (q : Str × Int) b => putK b q) (S := fun q : Str × Int => [q]) (B := 1) (A := a.2.2.zip r) (fun _ _ => Nat.le_refl 1) (fun q _ l hl => putK_eq l q hl) l (by omega)
          refine ⟨l', by rw [e, bindT_pure], ?_⟩
          rwa [List.flatMap_singleton'] at p) l (by omega)
      exact ⟨l', by rw [e, bindT_pure], p⟩) [] (by rw [hel]; simp only [List.length_nil]; omega)
  refine ⟨l, e, p.nd (by simp), ?_, fun x => ?_⟩
  · have := p.len
    have hx : ∀ A : List (Int × Str × List Str), (∀ a ∈ A, a ∈ enumI hs) → (A.flatMap fun i7 : Int × Str × List Str => ((atI ts i7.1).getD []).flatMap fun r => i7.2.2.zip r).length ≤ 18 * A.length := fun A => by
      induction A with
      | nil => intro _; simp
      | cons a A ih =>
        intro h
        rw [List.flatMap_cons, List.length_append, List.length_cons]
        have ih := ih fun a ha => h a (List.mem_cons_of_mem _ ha)
        obtain ⟨k, h1, h2⟩ := mem_enumI.mp (h a List.mem_cons_self)
        have hk : k < ts.length := by rw [hlen]; exact (List.getElem?_eq_some_iff.mp h1).1
        have h3 := List.getElem?_eq_getElem hk
        have : (ts[k].flatMap fun r => a.2.2.zip r).length ≤ 18 := tell_len ht hh hm (p := (a.2, ts[k])) (mem_zip_at.mpr ⟨k, h1, h3⟩)
        rw [h2, atI_nat h3]
        simp only [Option.getD_some]
        omega
    have := hx _ fun a h => h
    rw [hel] at this
    simp only [List.length_nil] at *
    omega
  · rw [p.mem, List.mem_flatMap]
    simp only [List.map_nil, List.not_mem_nil, false_or]
    constructor
    · rintro ⟨a, ha, hx⟩
      obtain ⟨k, h1, h2⟩ := mem_enumI.mp ha
      have hk : k < ts.length := by rw [hlen]; exact (List.getElem?_eq_some_iff.mp h1).1
      have h3 := List.getElem?_eq_getElem hk
      rw [h2, atI_nat h3] at hx
      obtain ⟨r, hr, hx⟩ := List.mem_flatMap.mp hx
      exact ⟨(a.2, ts[k]), mem_zip_at.mpr ⟨k, h1, h3⟩, r, hr, hx⟩
    · rintro ⟨p, hp, r, hr, hx⟩
      obtain ⟨k, h1, h2⟩ := mem_zip_at.mp hp
      exact ⟨((k : Int), p.1), mem_enumI.mpr ⟨k, h1, rfl⟩, by rw [atI_nat h2]; exact List.mem_flatMap.mpr ⟨r, hr, hx⟩⟩
/-! ### rows by keys -/
def Told (hs : List (Str × List Str)) (ts : List (List (List Int))) (x : Spot) : Prop := ∃ p ∈ hs.zip ts, ∃ r ∈ p.2, x ∈ p.1.2.zip r
structure GoodR (hs : List (Str × List Str)) (ts : List (List (List Int))) (fr cs : List Str) (k : Nat) (s : List Int) : Prop where
  len : s.length = k
  told : ∀ q ∈ (cs.take k).zip s, Told hs ts q
  may : k = 0 ∨ mayB hs ts fr ((cs.take k).zip s) = true
theorem keys_few (ht : Tabs m hs ts) (hh : Heads dl hs) (hm : m ≤ 6) {c : Str} {ks : List Int} (hn : ks.Nodup) (h : ∀ k ∈ ks, Told hs ts (c, k)) : ks.length ≤ 24 := by
  have := nodup_many (L := (hs.zip ts).flatMap fun p => p.2.filterMap fun r => aget (p.1.2.zip r) c) hn fun k hk => by
    obtain ⟨p, hp, r, hr, hx⟩ := h k hk
    refine List.mem_flatMap.mpr ⟨p, hp, List.mem_filterMap.mpr ⟨r, hr, ?_⟩⟩
    have hn : p.1.2.Nodup := asc_nodup (hh.casc _ (List.of_mem_zip hp).1)
    have hw : p.1.2.length = r.length := ((ht.tab p hp).wide r hr).symm
    have hm1 := List.of_mem_zip hx
    have : ((p.1.2.zip r).map (·.1)).Nodup := by rw [zip_keys hw]; exact hn
    exact aget_memN this hx
  refine Nat.le_trans this ?_
  have h4 : (hs.zip ts).length ≤ 4 := by rw [List.length_zip]; have := hh.few; omega
  have : ∀ l : List ((Str × List Str) × List (List Int)), (∀ p ∈ l, p ∈ hs.zip ts) → (l.flatMap fun p => p.2.filterMap fun r => aget (p.1.2.zip r) c).length ≤ 6 * l.length := fun l => by
    induction l with
    | nil => intro _; simp
    | cons p l ih =>
      intro h
      have ih := ih fun q hq => h q (List.mem_cons_of_mem _ hq)
      have T := ht.tab p (h p List.mem_cons_self)
      have h1 := List.length_filterMap_le (fun r => aget (p.1.2.zip r) c) p.2
      have h2 := T.few
      rw [List.flatMap_cons, List.length_append, List.length_cons]
      omega
  have := this (hs.zip ts) fun _ h => h
  omega
end
end DL
namespace DL
open PySem PySem.Spec PyProof.Rows L2
section
variable {m : Nat} {dl : List (Str × Str)} {hs : List (Str × List Str)} {ts : List (List (List Int))} {fr : List Str}
theorem zip_snoc {cs : List Str} {k : Nat} {c : Str} {s : List Int} {x : Int} (hc : cs[k]? = some c) (hl : s.length = k) : (cs.take (k + 1)).zip (s ++ [x]) = (cs.take k).zip s ++ [(c, x)] := by
  have hk : k < cs.length := (List.getElem?_eq_some_iff.mp hc).1
  rw [List.take_add_one, hc]
  exact List.zip_append (by rw [List.length_take]; omega)
theorem snoc_of {s : List Int} {k : Nat} (h : s.length = k + 1) : ∃ s' x, s = s' ++ [x] ∧ s'.length = k := by
  rcases List.eq_nil_or_concat s with rfl | ⟨s', x, rfl⟩
  · simp at h
  · exact ⟨s', x, by simp, by simpa using h⟩
theorem forT_cat {α β : Type} {f : α → List β} {mb : α → List β → TM (List β)} {B : Nat} : ∀ {A : List α} {acc : List β}, (∀ a ∈ A, (f a).length ≤ B) → (∀ a ∈ A, ∀ b, mb a b = optT (catT b (f a))) → acc.length + A.length * B ≤ 10000000 → forT mb A acc = pureT (acc ++ A.flatMap f)
  | [], acc, _, _, _ => by simp [forT]
  | a :: A, acc, hb, h, hl => by
    rw [List.length_cons, Nat.succ_mul] at hl
    have := hb a List.mem_cons_self
    unfold forT
    rw [h a List.mem_cons_self, catT_eq (by omega), opt_some, bindT_pure, forT_cat (fun a ha => hb a (List.mem_cons_of_mem _ ha)) (fun a ha => h a (List.mem_cons_of_mem _ ha)) (by rw [List.length_append]; omega), List.flatMap_cons, List.append_assoc]
theorem flatMap_len {α β : Type} {f : α → List β} {B : Nat} : ∀ {A : List α}, (∀ a ∈ A, (f a).length ≤ B) → (A.flatMap f).length ≤ A.length * B
  | [], _ => by simp
  | a :: A, h => by
    have := h a List.mem_cons_self
    have := flatMap_len (f := f) (B := B) (A := A) fun a ha => h a (List.mem_cons_of_mem _ ha)
    rw [List.flatMap_cons, List.length_append, List.length_cons, Nat.succ_mul]
    omega
theorem good_step {cs : List Str} {k : Nat} {c : Str} (hc : cs[k]? = some c) {rows : List (List Int)} {ks : List Int} (hr : ∀ s, s ∈ rows ↔ GoodR hs ts fr cs k s) (hk : ∀ x, x ∈ ks ↔ Told hs ts (c, x)) (s : List Int) :
    s ∈ (rows.flatMap fun s => ks.map fun x => s ++ [x]).filter (fun s => mayB hs ts fr ((cs.take s.length).zip s)) ↔ GoodR hs ts fr cs (k + 1) s := by
  rw [List.mem_filter, List.mem_flatMap]
  constructor
  · rintro ⟨⟨s', hs', hx⟩, hm⟩
    obtain ⟨x, hxk, rfl⟩ := List.mem_map.mp hx
    have G := (hr s').mp hs'
    have hl : (s' ++ [x]).length = k + 1 := by simp [G.len]
    rw [hl] at hm
    refine ⟨hl, fun q hq => ?_, .inr hm⟩
    rw [zip_snoc hc G.len, List.mem_append] at hq
    rcases hq with hq | hq
    · exact G.told q hq
    · rw [List.mem_singleton.mp hq]; exact (hk x).mp hxk
  · intro G
    obtain ⟨s', x, rfl, hl⟩ := snoc_of G.len
    have hz := zip_snoc (x := x) hc hl
    have hm : mayB hs ts fr ((cs.take (k + 1)).zip (s' ++ [x])) = true := G.may.resolve_left (by omega)
    refine ⟨⟨s', (hr s').mpr ⟨hl, fun q hq => G.told q (by rw [hz]; exact List.mem_append_left _ hq), .inr ?_⟩, List.mem_map.mpr ⟨x, (hk x).mpr (G.told (c, x) (by rw [hz]; simp)), rfl⟩⟩, ?_⟩
    · rw [hz] at hm
      exact may_mono (fun c k h => aget_app h) hm
    · rw [G.len]; exact hm
theorem step_nodup {rows : List (List Int)} {ks : List Int} (hr : rows.Nodup) (hk : ks.Nodup) (p : List Int → Bool) : ((rows.flatMap fun s => ks.map fun x => s ++ [x]).filter p).Nodup := by
  refine List.Pairwise.filter _ (List.pairwise_flatMap.mpr ⟨fun s _ => List.Pairwise.map _ (fun a b h e => h (by simpa using e)) hk, List.Pairwise.imp (fun {a b} h x hx y hy e => ?_) hr⟩)
  obtain ⟨x', _, rfl⟩ := List.mem_map.mp hx
  obtain ⟨y', _, rfl⟩ := List.mem_map.mp hy
  exact h (by have := congrArg List.dropLast e; simpa using this)
theorem goodR_full (hh : Heads dl hs) (ht : Tabs m hs ts) {cs : List Str} (hcs : cs = colsL hs fr) (hne : cs ≠ []) {s : List Int} : GoodR hs ts fr cs cs.length s ↔ IsFull hs ts fr s := by
  have hn : cs.Nodup := by rw [hcs]; exact cols_nodup hs fr
  have hpos : 0 < cs.length := List.length_pos_iff.mpr hne
  constructor
  · intro G
    have hl : cs.length = s.length := G.len.symm
    have hm := G.may.resolve_left (by omega)
    rw [List.take_length] at hm
    refine ⟨by rw [← hcs]; exact hl, fun p hp hpf => ?_⟩
    unfold mayB at hm
    rw [List.all_eq_true] at hm
    have := hm p hp
    rw [inB_iff.mpr hpf, Bool.not_true, Bool.false_or, List.any_eq_true] at this
    obtain ⟨r, hr, hf⟩ := this
    have : p.1.2.map (kat (colsL hs fr) s) = r := zip_fun ((ht.tab p hp).wide r hr) fun q hq => by
      unfold fitsB at hf
      rw [List.all_eq_true] at hf
      have h1 := hf q hq
      have hc : q.1 ∈ cs := by rw [hcs]; exact colsL_mem.mpr ⟨p.1, (List.of_mem_zip hp).1, hpf, (List.of_mem_zip hq).1⟩
      rw [aget_zip hl hc, Option.getD_some, eqB_iff] at h1
      rw [← hcs]
      exact h1
    rw [this]
    exact hr
  · rintro ⟨hl, hp⟩
    rw [← hcs] at hl hp
    have hq : ∀ q ∈ cs.zip s, q.2 = kat cs s q.1 := fun q hq => by
      have := aget_memN (l := cs.zip s) (by rw [zip_keys hl]; exact hn) hq
      rw [aget_zip hl (List.of_mem_zip hq).1] at this
      exact (Option.some.inj this).symm
    refine ⟨hl.symm, fun q hqm => ?_, .inr ?_⟩
    · rw [List.take_length] at hqm
      have hc := (List.of_mem_zip hqm).1
      rw [hcs] at hc
      obtain ⟨h, hh1, hhf, hhc⟩ := colsL_mem.mp hc
      obtain ⟨t, hz⟩ := zip_left ht.len hh1
      refine ⟨(h, t), hz, _, hp _ hz hhf, ?_⟩
      rw [show q = (q.1, kat cs s q.1) from Prod.ext rfl (hq q hqm)]
      rw [mem_zip_at]
      obtain ⟨i, hi⟩ := List.mem_iff_getElem?.mp hhc
      exact ⟨i, hi, by rw [List.getElem?_map, hi]; rfl⟩
    · rw [List.take_length]
      unfold mayB
      rw [List.all_eq_true]
      intro p hpm
      by_cases hpf : p.1.1 ∈ fr
      · rw [inB_iff.mpr hpf, Bool.not_true, Bool.false_or, List.any_eq_true]
        refine ⟨_, hp p hpm hpf, ?_⟩
        unfold fitsB
        rw [List.all_eq_true]
        intro q hqm
        have hc : q.1 ∈ cs := by rw [hcs]; exact colsL_mem.mpr ⟨p.1, (List.of_mem_zip hpm).1, hpf, (List.of_mem_zip hqm).1⟩
        rw [aget_zip hl hc, Option.getD_some, eqB_iff]
        obtain ⟨i, h1, h2⟩ := mem_zip_at.mp hqm
        rw [List.getElem?_map, h1] at h2
        exact Option.some.inj h2
      · rw [inB_false.mpr hpf]; rfl
theorem T_by_keys_eq (hd : Dials dl) (hh : Heads dl hs) (ht : Tabs m hs ts) (hm : m ≤ 6) (hf : Frame hs fr) : T__law_by_keys (dl, hs) ts fr = pureT (fullR hs ts fr) := by
  obtain ⟨l, e, hn, hl, hmem⟩ := keys_told ht hh hm
  have hcs5 : (colsL hs fr).length ≤ 5 := cols_len hd hh
  have hne : colsL hs fr ≠ [] := cols_ne hh hf
  generalize hcs : colsL hs fr = cs at hcs5 hne
  have hcn : cs.Nodup := by rw [← hcs]; exact cols_nodup hs fr
  unfold T__law_by_keys
  rw [c_lcols hh, hcs]
  simp only [putK, bindT_pure, bindT_bind, bindT_ret] at e ⊢
  rw [e, bindT_pure]
  obtain ⟨rows, e2, hJ⟩ := forT_inv (mb := fun (i25 : Str) (b24 : List (List Int)) => bindT (optT (keysN l)) fun l28 => bindT (compT (fun i27 => pureT (eqB i27.1 i25)) (fun i27 => pureT i27.2) l28) fun x29 => bindT (forT (fun i33 b32 => bindT (mapT (fun i35 => optT (catT i33 [i35])) x29) fun x38 => optT (catT b32 x38)) b24 []) fun v31 => compT (fun i40 => callT F__law_may_be D.bl [schP (dl, hs), tabsE ts, eT D.str fr, eT D.str (cutT cs none (some (i40.length : Int))), rowE i40]) (fun i40 => pureT i40) v31)
    (fun k rows => rows.Nodup ∧ rows.length ≤ 24 ^ k ∧ ∀ s, s ∈ rows ↔ GoodR hs ts fr cs k s) cs 0 [[]] ⟨by simp, by simp, fun s => by
      rw [List.mem_singleton]
      exact ⟨fun e => by subst e; exact ⟨rfl, (fun q h => by simp at h), .inl rfl⟩, fun G => List.length_eq_zero_iff.mp G.len⟩⟩ fun k c rows hc ⟨h1, h2, h3⟩ => by
      rw [Nat.zero_add] at *
      have hk : k < cs.length := (List.getElem?_eq_some_iff.mp hc).1
      rw [keysN_eq (by omega), opt_some, bindT_pure, compT_id, bindT_pure]
      have kn : (((l.map (·.1)).filter fun i27 => eqB i27.1 c).map (·.2)).Nodup := by
        refine List.pairwise_map.mpr (List.Pairwise.imp_of_mem (fun {a b} ha hb h e => h ?_) (List.Pairwise.filter _ hn))
        have ha := (List.mem_filter.mp ha).2
        have hb := (List.mem_filter.mp hb).2
        rw [eqB_iff] at ha hb
        exact Prod.ext (ha.trans hb.symm) e
      have km : ∀ x, x ∈ ((l.map (·.1)).filter fun i27 => eqB i27.1 c).map (·.2) ↔ Told hs ts (c, x) := fun x => by
        rw [List.mem_map]
        constructor
        · rintro ⟨q, hq, rfl⟩
          obtain ⟨h1, h2⟩ := List.mem_filter.mp hq
          rw [eqB_iff] at h2
          rw [← h2]
          exact (hmem q).mp h1
        · intro h
          exact ⟨(c, x), List.mem_filter.mpr ⟨(hmem _).mpr h, eqB_iff.mpr rfl⟩, rfl⟩
      have k24 := keys_few ht hh hm kn fun x hx => (km x).mp hx
      generalize ((l.map (·.1)).filter fun i27 => eqB i27.1 c).map (·.2) = ks at kn km k24
      have hpow : 24 ^ k * 24 ≤ 10000000 := Nat.le_trans (Nat.le_of_eq (Nat.pow_succ (m := k) (n := 24)).symm) (Nat.le_trans (Nat.pow_le_pow_right (j := 5) (by decide) (by omega)) (by decide))
      have hp2 : rows.length * 24 ≤ 24 ^ k * 24 := Nat.mul_le_mul_right _ h2
      rw [forT_cat (f := fun s : List Int => ks.map fun x => s ++ [x]) (B := 24) (fun s hs => by rw [List.length_map]; exact k24) (fun s hs b => by
        rw [mapT_pure (h := fun x => s ++ [x]) fun x hx => ?_, bindT_pure]
        have := ((h3 s).mp hs).len
        rw [catT_eq (by rw [this]; simp; omega)]
        rfl) (by simp only [List.length_nil]; omega), bindT_pure, List.nil_append,
        compT_pure (f := fun s => mayB hs ts fr ((cs.take s.length).zip s)) (h := fun s => s) (fun s hs => ?_) (fun _ _ _ => rfl), List.map_id']
      · refine ⟨_, rfl, step_nodup h1 kn _, ?_, good_step hc h3 km⟩
        refine Nat.le_trans (List.length_filter_le _ _) ?_
        rw [Nat.pow_succ]
        exact Nat.le_trans (flatMap_len (B := 24) fun s _ => by rw [List.length_map]; exact k24) hp2
      · rw [cutT_to]
        refine c_mayBe ht (List.Sublist.nodup (List.take_sublist _ _) hcn) ?_
        obtain ⟨s', hs', hx⟩ := List.mem_flatMap.mp hs
        obtain ⟨x, hx, rfl⟩ := List.mem_map.mp hx
        have := ((h3 s').mp hs').len
        rw [List.length_take, List.length_append, this]
        simp only [List.length_singleton]
        omega
  rw [e2, bindT_pure]
  obtain ⟨r1, r2, r3⟩ := hJ
  rw [Nat.zero_add] at r3
  congr 1
  refine map_inj' (e := rowE) (asc_one (srtE_asc r1) (fullR_asc hh ht) fun y => ?_)
  rw [List.mem_map, List.mem_map]
  have : ∀ r, r ∈ srtE rowE rows ↔ r ∈ fullR hs ts fr := fun r => by rw [srtE_mem, r3, goodR_full hh ht hcs.symm hne, fullR_mem hh ht]
  simp only [this]
theorem c_byKeys (hd : Dials dl) (hh : Heads dl hs) (ht : Tabs m hs ts) (hm : m ≤ 6) (hf : Frame hs fr) : callT F__law_by_keys rowsE [schP (dl, hs), tabsE ts, eT D.str fr] = pureT (fullR hs ts fr) := callT_pure fun g => S__law_by_keys _ _ _ (by rw [T_by_keys_eq hd hh ht hm hf]; rfl)
end
end DL
namespace K07
open PySem PySem.Spec PyProof.Rows L2 DL
def topS (i : Nat) : Stmt := PySem.Challenge.pw_keyrates_k07_full_rows_and_parts.main.body.getD i (.Pass ⟨0, 0, 0, 0⟩)
structure Tx (K : PySem.W.Frag) (mg : Str → Option Value) : Prop where
  d_columns_in : DefOkK K mg "columns_in" (topS 1) ["scheme", "table"] []
  d_columns_of : DefOkK K mg "columns_of" (topS 3) ["scheme", "frame"] []
  d_fitting : DefOkK K mg "fitting" (topS 4) ["row", "columns", "keys"] []
  d_full_rows : DefOkK K mg "full_rows" (topS 5) ["scheme", "tables", "frame"] [(["frame", "tables", "scheme"], [2, 1, 0])]
  d_part_of : DefOkK K mg "part_of" (topS 6) ["scheme", "row", "frame", "other"] [(["other", "row", "frame", "scheme"], [3, 1, 2, 0])]
  d__law_deck : DefOk K mg "_law_deck" (topS 8) ["_law_script"]
  d__law_next : DefOkK K mg "_law_next" (topS 9) ["_law_deck_here", "_law_many"] []
  d__law_one : DefOkK K mg "_law_one" (topS 10) ["_law_deck_here", "_law_items"] []
  d__law_dials : DefOkK K mg "_law_dials" (topS 11) ["_law_deck_here"] []
  d__law_scheme : DefOkK K mg "_law_scheme" (topS 12) ["_law_deck_here"] []
  d__law_tables : DefOkK K mg "_law_tables" (topS 13) ["_law_deck_here", "_law_plot", "_law_most"] []
  d__law_columns : DefOkK K mg "_law_columns" (topS 14) ["_law_plot", "_law_span"] []
  d__law_full : DefOkK K mg "_law_full" (topS 15) ["_law_plot", "_law_stock", "_law_span"] []
  d__law_any_frame : DefOkK K mg "_law_any_frame" (topS 16) ["_law_deck_here", "_law_plot"] []
  d__law_may_be : DefOkK K mg "_law_may_be" (topS 18) ["_law_plot", "_law_stock", "_law_span", "_law_columns_here", "_law_shelf"] []
  d__law_by_keys : DefOkK K mg "_law_by_keys" (topS 17) ["_law_plot", "_law_stock", "_law_span"] []
  n_abs : mg "abs" = none
  n_dict : mg "dict" = none
  n_enumerate : mg "enumerate" = none
  n_int : mg "int" = none
  n_len : mg "len" = none
  n_range : mg "range" = none
  n_repr : mg "repr" = none
  n_set : mg "set" = none
  n_sorted : mg "sorted" = none
  n_tuple : mg "tuple" = none
  n_zip : mg "zip" = none
/-! columns_in -/
abbrev s_columns_in : Stmt := topS 1
theorem sc_columns_in : FnScope ["scheme", "table"] ["scheme", "table"] (defScope s_columns_in) := ⟨rfl, rfl, rfl, by decide +kernel, rfl, by decide +kernel, by decide +kernel⟩
theorem D_columns_in {P : Program} {w : World} {K : PySem.W.Frag} {mg : Str → Option Value} {base : Heap} (T : Tx K mg) : FDK P w K mg base (DF w) 1 "columns_in" 2 F_columns_in [] := fdk_to T.d_columns_in sc_columns_in rfl fun f =>
  (s_one (d_ret (d_sub' (d_dict T.n_dict (d_sub' (d_var 0) d_int)) (d_var 1))))
/-! columns_of -/
abbrev s_columns_of : Stmt := topS 3
theorem sc_columns_of : FnScope ["scheme", "frame", "found", "table"] ["scheme", "frame"] (defScope s_columns_of) := ⟨rfl, rfl, rfl, by decide +kernel, rfl, by decide +kernel, by decide +kernel⟩
theorem D_columns_of {P : Program} {w : World} {K : PySem.W.Frag} {mg : Str → Option Value} {base : Heap} (T : Tx K mg) : FDK P w K mg base (DF w) 2 "columns_of" 2 F_columns_of [] := fdk_to T.d_columns_of sc_columns_of rfl fun f =>
  (s_cons (d_set 2 (d_lst a_nil)) (s_cons (d_for (i_seq (d_var 1)) (g_name 3) (s_one (d_expr (d_ext 2 (d_call (D_columns_in (P := P) (w := w) (K := K) (mg := mg) (base := base) T).fd (a_cons (d_var 0) (a_cons (d_var 3) a_nil)) (Nat.le_of_ble_eq_true rfl)))))) (s_one (d_ret (d_tuple T.n_tuple (d_ss T.n_sorted T.n_set (d_var 2)))))))
/-! fitting -/
abbrev s_fitting : Stmt := topS 4
theorem sc_fitting : FnScope ["row", "columns", "keys", "found", "column", "key"] ["row", "columns", "keys"] (defScope s_fitting) := ⟨rfl, rfl, rfl, by decide +kernel, rfl, by decide +kernel, by decide +kernel⟩
theorem D_fitting {P : Program} {w : World} {K : PySem.W.Frag} {mg : Str → Option Value} {base : Heap} (T : Tx K mg) : FDK P w K mg base (DF w) 1 "fitting" 3 F_fitting [] := fdk_to T.d_fitting sc_fitting rfl fun f =>
  (s_cons (d_set 3 (d_dict T.n_dict (d_var 0))) (s_cons (d_for (i_zip (a_cons (d_var 1) (a_cons (d_var 2) a_nil)) T.n_zip) (g_tup (gs_cons (g_name 4) (gs_cons (g_name 5) gs_nil))) (s_cons (d_if (t_ne (d_get2 (d_var 3) (d_var 4) (d_var 5)) (d_var 5)) (s_one (d_ret d_non)) s_nil) (s_one (d_dput 3 (d_var 5) (d_var 4))))) (s_one (d_ret (d_var 3)))))
/-! full_rows -/
abbrev s_full_rows : Stmt := topS 5
theorem sc_full_rows : FnScope ["scheme", "tables", "frame", "rows", "wanted", "held", "table", "columns", "longer", "row", "keys", "column"] ["scheme", "tables", "frame"] (defScope s_full_rows) := ⟨rfl, rfl, rfl, by decide +kernel, rfl, by decide +kernel, by decide +kernel⟩
theorem D_full_rows {P : Program} {w : World} {K : PySem.W.Frag} {mg : Str → Option Value} {base : Heap} (T : Tx K mg) : FDK P w K mg base (DF w) 3 "full_rows" 3 F_full_rows [(["frame", "tables", "scheme"], [2, 1, 0])] := fdk_to T.d_full_rows sc_full_rows rfl fun f =>
  (s_cons (d_set 3 (d_shr (d_lst (a_cons d_dnew a_nil)))) (s_cons (d_for (i_zip (a_cons (d_sub' (d_var 0) d_int) (a_cons (d_var 1) a_nil)) T.n_zip) (g_tup (gs_cons (g_tup (gs_cons (g_name 6) (gs_cons (g_name 7) gs_nil))) (gs_cons (g_name 5) gs_nil))) (s_one (d_if (t_in (d_var 6) (d_var 2)) (s_cons (d_set 8 (d_lst a_nil)) (s_cons (d_for (i_seq (d_var 3)) (g_name 9) (s_one (d_expr (d_ext 8 (d_lc [("keys", 10)] (i_seq (d_var 5)) (g_name 10) t_nil (d_call (D_fitting (P := P) (w := w) (K := K) (mg := mg) (base := base) T).fd (a_cons (d_var 9) (a_cons (d_var 7) (a_cons (d_var 10) a_nil))) (Nat.le_of_ble_eq_true rfl)) (ok := fun _ => by kernel_rfl)))))) (s_one (DS.shr (d_setLc 3 [("row", 9)] (i_seq (d_var 8)) (g_name 9) (t_one (t_isnt (d_var 9) d_non)) (d_var 9) (ok := fun _ => by kernel_rfl)))))) s_nil))) (s_cons (d_set 4 (d_call (D_columns_of (P := P) (w := w) (K := K) (mg := mg) (base := base) T).fd (a_cons (d_var 0) (a_cons (d_var 2) a_nil)) (Nat.le_of_ble_eq_true rfl))) (s_one (d_ret (d_tuple T.n_tuple (d_sort T.n_sorted (d_lc [("row", 9)] (i_seq (d_var 3)) (g_name 9) t_nil (d_tuple T.n_tuple (d_lc [("column", 11)] (i_seq (d_var 4)) (g_name 11) t_nil (d_sub' (d_var 9) (d_var 11)) (ok := fun _ => by kernel_rfl))) (ok := fun _ => by kernel_rfl)))))))))
/-! part_of -/
abbrev s_part_of : Stmt := topS 6
theorem sc_part_of : FnScope ["scheme", "row", "frame", "other", "keys", "column"] ["scheme", "row", "frame", "other"] (defScope s_part_of) := ⟨rfl, rfl, rfl, by decide +kernel, rfl, by decide +kernel, by decide +kernel⟩
theorem D_part_of {P : Program} {w : World} {K : PySem.W.Frag} {mg : Str → Option Value} {base : Heap} (T : Tx K mg) : FDK P w K mg base (DF w) 3 "part_of" 4 F_part_of [(["other", "row", "frame", "scheme"], [3, 1, 2, 0])] := fdk_to T.d_part_of sc_part_of rfl fun f =>
  (s_cons (d_set 4 (d_shr (d_dictZip T.n_dict T.n_zip (a_cons (d_call (D_columns_of (P := P) (w := w) (K := K) (mg := mg) (base := base) T).fd (a_cons (d_var 0) (a_cons (d_var 2) a_nil)) (Nat.le_of_ble_eq_true rfl)) (a_cons (d_var 1) a_nil))))) (s_one (d_ret (d_tuple T.n_tuple (d_lc [("column", 5)] (i_seq (d_call (D_columns_of (P := P) (w := w) (K := K) (mg := mg) (base := base) T).fd (a_cons (d_var 0) (a_cons (d_var 3) a_nil)) (Nat.le_of_ble_eq_true rfl))) (g_name 5) t_nil (d_sub' (d_var 4) (d_var 5)) (ok := fun _ => by kernel_rfl))))))
/-! _law_next -/
abbrev s__law_next : Stmt := topS 9
theorem sc__law_next : FnScope ["_law_deck_here", "_law_many", "_law_turn", "_law_number", "_law_mixed", "_law_rest"] ["_law_deck_here", "_law_many"] (defScope s__law_next) := ⟨rfl, rfl, rfl, by decide +kernel, rfl, by decide +kernel, by decide +kernel⟩
theorem D__law_next {P : Program} {w : World} {K : PySem.W.Frag} {mg : Str → Option Value} {base : Heap} (T : Tx K mg) : FDK P w K mg base (DF w) 1 "_law_next" 2 F__law_next [] := fdk_to T.d__law_next sc__law_next rfl fun f =>
  (s_cons (d_while (t_neW rdW (d_subW rdW (d_var 0) d_int) (d_lst a_nil)) (s_cons (d_set 5 (d_subW rdW (d_subW rdW (d_var 0) d_int) d_int)) (s_cons (d_if (t_ord oGt (d_var 5) d_int) (s_cons (d_putW (d_subW rdW (d_var 0) d_int) d_int (d_fdiv (d_var 5) (d_var 1))) (s_one (d_ret (d_mod (d_int1 T.n_int (d_var 5)) (d_var 1))))) s_nil) (s_one (d_expr (d_popW (d_subW rdW (d_var 0) d_int))))))) (s_cons (d_putW (d_var 0) d_int (d_add (d_subW rdW (d_var 0) d_int) d_int)) (s_cons (d_set 2 (d_subW rdW (d_var 0) d_int)) (s_cons (d_set 3 (d_mod (d_int1 T.n_int (d_subW rdW (d_subW rdW (d_var 0) d_int) (d_mod (d_int1 T.n_int (d_var 2)) (d_lenW rdW T.n_len (d_subW rdW (d_var 0) d_int))))) d_int)) (s_cons (d_set 4 (d_mod (d_int1 T.n_int (d_add (d_add (d_mul (d_var 3) (d_add d_int (d_mul d_int (d_var 2)))) (d_mul (d_mul d_int (d_var 2)) (d_var 2))) d_int)) d_int)) (s_one (d_ret (d_mod (d_fdiv (d_mod (d_int1 T.n_int (d_mul (d_var 4) (d_var 4))) d_int) d_int) (d_var 1)))))))))
/-! _law_one -/
abbrev s__law_one : Stmt := topS 10
theorem sc__law_one : FnScope ["_law_deck_here", "_law_items"] ["_law_deck_here", "_law_items"] (defScope s__law_one) := ⟨rfl, rfl, rfl, by decide +kernel, rfl, by decide +kernel, by decide +kernel⟩
theorem D__law_one {P : Program} {w : World} {K : PySem.W.Frag} {mg : Str → Option Value} {base : Heap} (T : Tx K mg) : FDK P w K mg base (DF w) 2 "_law_one" 2 F__law_one [] := fdk_to T.d__law_one sc__law_one rfl fun f =>
  (s_one (d_ret (d_sub' (d_var 1) (d_call (D__law_next (P := P) (w := w) (K := K) (mg := mg) (base := base) T).fd (a_cons (d_var 0) (a_cons (d_len T.n_len (d_var 1)) a_nil)) (Nat.le_of_ble_eq_true rfl)))))
/-! _law_dials -/
abbrev s__law_dials : Stmt := topS 11
theorem sc__law_dials : FnScope ["_law_deck_here", "_law_names", "_law_some", "_law_dials_here", "_law_column", "_law_turn"] ["_law_deck_here"] (defScope s__law_dials) := ⟨rfl, rfl, rfl, by decide +kernel, rfl, by decide +kernel, by decide +kernel⟩
theorem D__law_dials {P : Program} {w : World} {K : PySem.W.Frag} {mg : Str → Option Value} {base : Heap} (T : Tx K mg) : FDK P w K mg base (DF w) 3 "_law_dials" 1 F__law_dials [] := fdk_to T.d__law_dials sc__law_dials rfl fun f =>
  (s_cons (d_set 1 (d_lst (a_cons d_str (a_cons d_str (a_cons d_str (a_cons d_str (a_cons d_str (a_cons d_str (a_cons d_str (a_cons d_str a_nil)))))))))) (s_cons (d_set 2 (d_sl (d_ss T.n_sorted T.n_set (d_lc [("_law_turn", 5)] (i_range1 (d_add d_int (d_call (D__law_next (P := P) (w := w) (K := K) (mg := mg) (base := base) T).fd (a_cons (d_var 0) (a_cons d_int a_nil)) (Nat.le_of_ble_eq_true rfl))) (hm := T.n_range)) (g_name 5) t_nil (d_call (D__law_one (P := P) (w := w) (K := K) (mg := mg) (base := base) T).fd (a_cons (d_var 0) (a_cons (d_var 1) a_nil)) (Nat.le_of_ble_eq_true rfl)) (ok := fun _ => by kernel_rfl))) p_none (p_some d_int))) (s_cons (d_set 3 (d_sub' (d_lst (a_cons (d_lst (a_cons d_str (a_cons d_str (a_cons d_str a_nil)))) (a_cons (d_lst (a_cons d_str a_nil)) (a_cons (d_lst (a_cons d_str (a_cons d_str (a_cons d_str (a_cons d_str a_nil))))) a_nil)))) (d_call (D__law_next (P := P) (w := w) (K := K) (mg := mg) (base := base) T).fd (a_cons (d_var 0) (a_cons d_int a_nil)) (Nat.le_of_ble_eq_true rfl)))) (s_one (d_ret (d_tuple T.n_tuple (d_lc [("_law_column", 4)] (i_seq (d_var 2)) (g_name 4) t_nil (d_tup (a_cons (d_var 4) (a_cons (d_call (D__law_one (P := P) (w := w) (K := K) (mg := mg) (base := base) T).fd (a_cons (d_var 0) (a_cons (d_var 3) a_nil)) (Nat.le_of_ble_eq_true rfl)) a_nil))) (ok := fun _ => by kernel_rfl))))))))
/-! _law_scheme -/
abbrev s__law_scheme : Stmt := topS 12
theorem sc__law_scheme : FnScope ["_law_deck_here", "_law_columns_here", "_law_turn", "_law_dials_here", "_law_heads", "_law_some", "_law_column", "_law_dial", "_law_table", "_law_again"] ["_law_deck_here"] (defScope s__law_scheme) := ⟨rfl, rfl, rfl, by decide +kernel, rfl, by decide +kernel, by decide +kernel⟩
theorem D__law_scheme {P : Program} {w : World} {K : PySem.W.Frag} {mg : Str → Option Value} {base : Heap} (T : Tx K mg) : FDK P w K mg base (DF w) 4 "_law_scheme" 1 F__law_scheme [] := fdk_to T.d__law_scheme sc__law_scheme rfl fun f =>
  (s_cons (d_parT 3 4 (d_call (D__law_dials (P := P) (w := w) (K := K) (mg := mg) (base := base) T).fd (a_cons (d_var 0) a_nil) (Nat.le_of_ble_eq_true rfl)) d_dnew) (s_cons (d_set 1 (d_lc [("_law_column", 6), ("_law_dial", 7)] (i_seq (d_var 3)) (g_tup (gs_cons (g_name 6) (gs_cons (g_name 7) gs_nil))) t_nil (d_var 6) (ok := fun _ => by kernel_rfl))) (s_cons (d_for (i_range1 (d_add d_int (d_call (D__law_next (P := P) (w := w) (K := K) (mg := mg) (base := base) T).fd (a_cons (d_var 0) (a_cons d_int a_nil)) (Nat.le_of_ble_eq_true rfl))) (hm := T.n_range)) (g_name 2) (s_cons (d_set 5 (d_sl (d_ss T.n_sorted T.n_set (d_lc [("_law_again", 9)] (i_range1 (d_add d_int (d_call (D__law_next (P := P) (w := w) (K := K) (mg := mg) (base := base) T).fd (a_cons (d_var 0) (a_cons d_int a_nil)) (Nat.le_of_ble_eq_true rfl))) (hm := T.n_range)) (g_name 9) t_nil (d_call (D__law_one (P := P) (w := w) (K := K) (mg := mg) (base := base) T).fd (a_cons (d_var 0) (a_cons (d_var 1) a_nil)) (Nat.le_of_ble_eq_true rfl)) (ok := fun _ => by kernel_rfl))) p_none (p_some d_int))) (s_one (d_dput 4 (d_tuple T.n_tuple (d_var 5)) (d_call (D__law_one (P := P) (w := w) (K := K) (mg := mg) (base := base) T).fd (a_cons (d_var 0) (a_cons (d_lst (a_cons d_str (a_cons d_str (a_cons d_str (a_cons d_str (a_cons d_str (a_cons d_str a_nil))))))) a_nil)) (Nat.le_of_ble_eq_true rfl)))))) (s_one (d_ret (d_tup (a_cons (d_var 3) (a_cons (d_tuple T.n_tuple (d_lc [("_law_table", 8)] (i_seq (d_sortD T.n_sorted (d_var 4))) (g_name 8) t_nil (d_tup (a_cons (d_var 8) (a_cons (d_sub' (d_var 4) (d_var 8)) a_nil))) (ok := fun _ => by kernel_rfl))) a_nil))))))))
/-! _law_tables -/
abbrev s__law_tables : Stmt := topS 13
theorem sc__law_tables : FnScope ["_law_deck_here", "_law_plot", "_law_most", "_law_found", "_law_wide", "_law_table", "_law_columns_here", "_law_rows", "_law_turn", "_law_column"] ["_law_deck_here", "_law_plot", "_law_most"] (defScope s__law_tables) := ⟨rfl, rfl, rfl, by decide +kernel, rfl, by decide +kernel, by decide +kernel⟩
theorem D__law_tables {P : Program} {w : World} {K : PySem.W.Frag} {mg : Str → Option Value} {base : Heap} (T : Tx K mg) : FDK P w K mg base (DF w) 3 "_law_tables" 3 F__law_tables [] := fdk_to T.d__law_tables sc__law_tables rfl fun f =>
  (s_cons (d_parT 3 4 (d_lst a_nil) (d_call (D__law_one (P := P) (w := w) (K := K) (mg := mg) (base := base) T).fd (a_cons (d_var 0) (a_cons (d_lst (a_cons d_int (a_cons d_int (a_cons d_int (a_cons d_int a_nil))))) a_nil)) (Nat.le_of_ble_eq_true rfl))) (s_cons (d_for (i_seq (d_sub' (d_var 1) d_int)) (g_tup (gs_cons (g_name 5) (gs_cons (g_name 6) gs_nil))) (s_cons (d_set 7 (d_lst a_nil)) (s_cons (d_for (i_range1 (d_call (D__law_next (P := P) (w := w) (K := K) (mg := mg) (base := base) T).fd (a_cons (d_var 0) (a_cons (d_add (d_var 2) d_int) a_nil)) (Nat.le_of_ble_eq_true rfl)) (hm := T.n_range)) (g_name 8) (s_one (d_expr (d_app 7 (d_tuple T.n_tuple (d_lc [("_law_column", 9)] (i_seq (d_var 6)) (g_name 9) t_nil (d_call (D__law_next (P := P) (w := w) (K := K) (mg := mg) (base := base) T).fd (a_cons (d_var 0) (a_cons (d_var 4) a_nil)) (Nat.le_of_ble_eq_true rfl)) (ok := fun _ => by kernel_rfl))))))) (s_one (d_expr (d_app 3 (d_tuple T.n_tuple (d_ss2 T.n_sorted T.n_set (d_var 7))))))))) (s_one (d_ret (d_tuple T.n_tuple (d_var 3))))))
/-! _law_columns -/
abbrev s__law_columns : Stmt := topS 14
theorem sc__law_columns : FnScope ["_law_plot", "_law_span", "_law_found", "_law_table", "_law_columns_here"] ["_law_plot", "_law_span"] (defScope s__law_columns) := ⟨rfl, rfl, rfl, by decide +kernel, rfl, by decide +kernel, by decide +kernel⟩
theorem D__law_columns {P : Program} {w : World} {K : PySem.W.Frag} {mg : Str → Option Value} {base : Heap} (T : Tx K mg) : FDK P w K mg base (DF w) 1 "_law_columns" 2 F__law_columns [] := fdk_to T.d__law_columns sc__law_columns rfl fun f =>
  (s_cons (d_set 2 (d_lst a_nil)) (s_cons (d_for (i_seq (d_sub' (d_var 0) d_int)) (g_tup (gs_cons (g_name 3) (gs_cons (g_name 4) gs_nil))) (s_one (d_if (t_in (d_var 3) (d_var 1)) (s_one (d_expr (d_ext 2 (d_var 4)))) s_nil))) (s_one (d_ret (d_tuple T.n_tuple (d_ss T.n_sorted T.n_set (d_var 2)))))))
/-! _law_full -/
abbrev s__law_full : Stmt := topS 15
theorem sc__law_full : FnScope ["_law_plot", "_law_stock", "_law_span", "_law_columns_here", "_law_rows", "_law_at", "_law_longer", "_law_shelf", "_law_table", "_law_own", "_law_keys", "_law_later", "_law_column"] ["_law_plot", "_law_stock", "_law_span"] (defScope s__law_full) := ⟨rfl, rfl, rfl, by decide +kernel, rfl, by decide +kernel, by decide +kernel⟩
theorem D__law_full {P : Program} {w : World} {K : PySem.W.Frag} {mg : Str → Option Value} {base : Heap} (T : Tx K mg) : FDK P w K mg base (DF w) 2 "_law_full" 3 F__law_full [] := fdk_to T.d__law_full sc__law_full rfl fun f =>
  (s_cons (d_parT 3 4 (d_call (D__law_columns (P := P) (w := w) (K := K) (mg := mg) (base := base) T).fd (a_cons (d_var 0) (a_cons (d_var 2) a_nil)) (Nat.le_of_ble_eq_true rfl)) (d_shr (d_lst (a_cons d_dnew a_nil)))) (s_cons (d_for (i_enumT (d_sub' (d_var 0) d_int) T.n_enumerate) (g_tup (gs_cons (g_name 5) (gs_cons (g_tup (gs_cons (g_name 8) (gs_cons (g_name 9) gs_nil))) gs_nil))) (s_cons (d_set 6 (d_lst a_nil)) (s_cons (d_for (i_seq (d_var 4)) (g_name 7) (s_one (d_for (i_seq (d_sub' (d_var 1) (d_var 5))) (g_name 10) (s_cons (d_set 11 (d_dict T.n_dict (d_var 7))) (s_cons (d_expr (d_upd 11 (d_dictZip T.n_dict T.n_zip (a_cons (d_var 9) (a_cons (d_var 10) a_nil))))) (s_one (d_if (t_eq (d_lcV 7 [("_law_column", 12)] (g_name 12) (t_one (t_ne (d_sub' (d_var 11) (d_var 12)) (d_sub' (d_var 7) (d_var 12)))) (d_var 12) (ok := fun _ => by kernel_rfl)) (d_lst a_nil)) (s_one (d_expr (d_app 6 (d_var 11)))) s_nil))))))) (s_one (d_set 4 (d_shr (d_ifx (t_in (d_var 8) (d_var 2)) (d_var 6) (d_var 4)))))))) (s_one (d_ret (d_tuple T.n_tuple (d_sort T.n_sorted (d_lc [("_law_shelf", 7)] (i_seq (d_var 4)) (g_name 7) t_nil (d_tuple T.n_tuple (d_lc [("_law_column", 12)] (i_seq (d_var 3)) (g_name 12) t_nil (d_sub' (d_var 7) (d_var 12)) (ok := fun _ => by kernel_rfl))) (ok := fun _ => by kernel_rfl))))))))
/-! _law_any_frame -/
abbrev s__law_any_frame : Stmt := topS 16
theorem sc__law_any_frame : FnScope ["_law_deck_here", "_law_plot", "_law_names", "_law_many", "_law_table", "_law_columns_here", "_law_turn"] ["_law_deck_here", "_law_plot"] (defScope s__law_any_frame) := ⟨rfl, rfl, rfl, by decide +kernel, rfl, by decide +kernel, by decide +kernel⟩
theorem D__law_any_frame {P : Program} {w : World} {K : PySem.W.Frag} {mg : Str → Option Value} {base : Heap} (T : Tx K mg) : FDK P w K mg base (DF w) 3 "_law_any_frame" 2 F__law_any_frame [] := fdk_to T.d__law_any_frame sc__law_any_frame rfl fun f =>
  (s_cons (d_set 2 (d_shr (d_lc [("_law_table", 4), ("_law_columns_here", 5)] (i_seq (d_sub' (d_var 1) d_int)) (g_tup (gs_cons (g_name 4) (gs_cons (g_name 5) gs_nil))) t_nil (d_var 4) (ok := fun _ => by kernel_rfl)))) (s_cons (d_set 3 (d_shr (d_add d_int (d_call (D__law_next (P := P) (w := w) (K := K) (mg := mg) (base := base) T).fd (a_cons (d_var 0) (a_cons d_int a_nil)) (Nat.le_of_ble_eq_true rfl))))) (s_one (d_ret (d_tuple T.n_tuple (d_ss2 T.n_sorted T.n_set (d_lc [("_law_turn", 6)] (i_range1 (d_var 3) (hm := T.n_range)) (g_name 6) t_nil (d_call (D__law_one (P := P) (w := w) (K := K) (mg := mg) (base := base) T).fd (a_cons (d_var 0) (a_cons (d_var 2) a_nil)) (Nat.le_of_ble_eq_true rfl)) (ok := fun _ => by kernel_rfl))))))))
/-! _law_may_be -/
abbrev s__law_may_be : Stmt := topS 18
theorem sc__law_may_be : FnScope ["_law_plot", "_law_stock", "_law_span", "_law_columns_here", "_law_shelf", "_law_known", "_law_at", "_law_table", "_law_own", "_law_fits", "_law_rival", "_law_wrong", "_law_column", "_law_key"] ["_law_plot", "_law_stock", "_law_span", "_law_columns_here", "_law_shelf"] (defScope s__law_may_be) := ⟨rfl, rfl, rfl, by decide +kernel, rfl, by decide +kernel, by decide +kernel⟩
theorem D__law_may_be {P : Program} {w : World} {K : PySem.W.Frag} {mg : Str → Option Value} {base : Heap} (T : Tx K mg) : FDK P w K mg base (DF w) 1 "_law_may_be" 5 F__law_may_be [] := fdk_to T.d__law_may_be sc__law_may_be rfl fun f =>
  (s_cons (d_set 5 (d_shr (d_dictZip T.n_dict T.n_zip (a_cons (d_var 3) (a_cons (d_var 4) a_nil))))) (s_cons (d_for (i_enumT (d_sub' (d_var 0) d_int) T.n_enumerate) (g_tup (gs_cons (g_name 6) (gs_cons (g_tup (gs_cons (g_name 7) (gs_cons (g_name 8) gs_nil))) gs_nil))) (s_one (d_if (t_in (d_var 7) (d_var 2)) (s_cons (d_set 9 d_bl) (s_cons (d_for (i_seq (d_sub' (d_var 1) (d_var 6))) (g_name 10) (s_cons (DS.shr (d_setLc 11 [("_law_column", 12), ("_law_key", 13)] (i_zip (a_cons (d_var 8) (a_cons (d_var 10) a_nil)) T.n_zip) (g_tup (gs_cons (g_name 12) (gs_cons (g_name 13) gs_nil))) (t_one (t_ne (d_get2 (d_var 5) (d_var 12) (d_var 13)) (d_var 13))) d_int (ok := fun _ => by kernel_rfl))) (s_one (d_set 9 (d_shr (d_orV (d_var 9) (d_one (d_eq (d_var 11) (d_lst a_nil))))))))) (s_one (d_if (d_not (d_test (d_var 9))) (s_one (d_ret d_bl)) s_nil)))) s_nil))) (s_one (d_ret d_bl))))
/-! _law_by_keys -/
abbrev s__law_by_keys : Stmt := topS 17
theorem sc__law_by_keys : FnScope ["_law_plot", "_law_stock", "_law_span", "_law_rows", "_law_column", "_law_columns_here", "_law_keys", "_law_at", "_law_shelf", "_law_table", "_law_own", "_law_some", "_law_longer", "_law_key", "_law_name"] ["_law_plot", "_law_stock", "_law_span"] (defScope s__law_by_keys) := ⟨rfl, rfl, rfl, by decide +kernel, rfl, by decide +kernel, by decide +kernel⟩
theorem D__law_by_keys {P : Program} {w : World} {K : PySem.W.Frag} {mg : Str → Option Value} {base : Heap} (T : Tx K mg) : FDK P w K mg base (DF w) 2 "_law_by_keys" 3 F__law_by_keys [] := fdk_to T.d__law_by_keys sc__law_by_keys rfl fun f =>
  (s_cons (d_parT 5 6 (d_call (D__law_columns (P := P) (w := w) (K := K) (mg := mg) (base := base) T).fd (a_cons (d_var 0) (a_cons (d_var 2) a_nil)) (Nat.le_of_ble_eq_true rfl)) d_dnew) (s_cons (d_for (i_enumT (d_sub' (d_var 0) d_int) T.n_enumerate) (g_tup (gs_cons (g_name 7) (gs_cons (g_tup (gs_cons (g_name 9) (gs_cons (g_name 10) gs_nil))) gs_nil))) (s_one (d_for (i_seq (d_sub' (d_var 1) (d_var 7))) (g_name 8) (s_one (d_for (i_zip (a_cons (d_var 10) (a_cons (d_var 8) a_nil)) T.n_zip) (g_tup (gs_cons (g_name 4) (gs_cons (g_name 13) gs_nil))) (s_one (d_dputN 6 d_bl (d_tup (a_cons (d_var 4) (a_cons (d_var 13) a_nil))) (hF := fun _ h => pwDF h)))))))) (s_cons (DS.after 6 (d_set 3 (d_shr (d_lst (a_cons (d_tup a_nil) a_nil))))) (s_cons (d_for (i_seq (d_var 5)) (g_name 4) (s_cons (d_par 11 12 (d_shr (d_lcN 6 [("_law_name", 14), ("_law_key", 13)] (g_tup (gs_cons (g_name 14) (gs_cons (g_name 13) gs_nil))) (t_one (t_eq (d_var 14) (d_var 4))) (d_var 13) (fun _ h => pwDF h) (ok := fun _ => by kernel_rfl))) (d_lst a_nil)) (s_cons (d_for (i_seq (d_var 3)) (g_name 8) (s_one (d_expr (d_ext 12 (d_lc [("_law_key", 13)] (i_seq (d_var 11)) (g_name 13) t_nil (d_add (d_var 8) (d_tup (a_cons (d_var 13) a_nil))) (ok := fun _ => by kernel_rfl)))))) (s_one (DS.shr (d_setLc 3 [("_law_shelf", 8)] (i_seq (d_var 12)) (g_name 8) (t_one (d_test (d_call (D__law_may_be (P := P) (w := w) (K := K) (mg := mg) (base := base) T).fd (a_cons (d_var 0) (a_cons (d_var 1) (a_cons (d_var 2) (a_cons (d_sl (d_var 5) p_none (p_some (d_len T.n_len (d_var 8)))) (a_cons (d_var 8) a_nil))))) (Nat.le_of_ble_eq_true rfl)))) (d_var 8) (ok := fun _ => by kernel_rfl))))))) (s_one (d_ret (d_tuple T.n_tuple (d_sort T.n_sorted (d_var 3)))))))))
/-! _law_deck -/
abbrev s__law_deck : Stmt := topS 8
theorem sc__law_deck : FnScope ["_law_script", "_law_cells", "_law_number"] ["_law_script"] (defScope s__law_deck) := ⟨rfl, rfl, rfl, by decide +kernel, rfl, by decide +kernel, by decide +kernel⟩
theorem D__law_deck {P : Program} {w : World} {K : PySem.W.Frag} {mg : Str → Option Value} {base : Heap} (T : Tx K mg) : ∃ f fd, mg "_law_deck" = some (.ref f) ∧ PySem.W.keepIn K (.ref f) = true ∧ Binds K fd ["_law_script"] [] ∧ DZ.FnG P w K mg base CX0 1 f fd ["_law_script"] (spDeck K) := by
  obtain ⟨f, fd, F, hm, hb⟩ := T.d__law_deck
  exact ⟨f, fd, hm, F.kp, hb, deck_of (m1 := dk1) (f1 := dk2) (f2 := dk3) F sc__law_deck rfl (fun ns => (d_setLc 1 [("_law_number", 2)] (i_scr 0) (g_name 2) t_nil (d_abs T.n_abs (d_var 2)) (ok := fun _ => by kernel_rfl))) (fun ns => (d_lc [("_law_number", 2)] (i_seq (d_var 1)) (g_name 2) (t_one (t_ord oGe (d_var 2) (d_pow d_int d_int))) (d_var 2) (ok := fun _ => by kernel_rfl))) (fun ns => (d_add (d_var 1) (d_lst (a_cons (d_add (d_len T.n_len (d_var 1)) d_int) a_nil)))) (fun _ => rfl) (fun _ => rfl) deck_good⟩
noncomputable def C_law_0 : M Dk S := (mLc (srcSeq (mVar 8)) (.nm 13) [13] (mTest (mOp opEq (mCall F__law_next (mCons (mVar 1) (mCons (mC (.int 2)) mNil))) (mC (.int 0)))) (mVar 13))
noncomputable def C_law_1 : M Dk S := (mLc (srcSeq (mCall F__law_columns (mCons (mVar 3) (mCons (mVar 11) mNil)))) (.nm 14) [14] mYes (mOp opIx (mDictZip (mCons (mVar 5) (mCons (mVar 6) mNil))) (mVar 14)))
noncomputable def L_law_2 : M Dk Fl := (mSeq (mSet 11 (mUn opTuple C_law_0)) (mIf (mTest (mOp opNe (mVar 11) (mTup mNil))) (mSeq (mSet 12 (mUn opTuple C_law_1)) (mSeq (mSet 4 (mShr (mLst (mCons (mCall F_part_of (mCons (mVar 3) (mCons (mVar 6) (mCons (mVar 8) (mCons (mVar 11) mNil))))) (mCons (mCallK [3, 1, 2, 0] F_part_of (mCons (mVar 11) (mCons (mVar 6) (mCons (mVar 8) (mCons (mVar 3) mNil))))) mNil))))) (mIf (mOr (mTest (mOp opNe (mUn opRepr (mVar 4)) (mUn opRepr (mLst (mCons (mVar 12) (mCons (mVar 12) mNil)))))) (mTest (mOp (opIn true) (mVar 12) (mCall F_full_rows (mCons (mVar 3) (mCons (mVar 7) (mCons (mVar 11) mNil))))))) (mRet (mC (.bl false))) mNext))) mNext))
noncomputable def L_law_3 : M Dk Fl := (mSeq (mSet 3 (mCall F__law_scheme (mCons (mVar 1) mNil))) (mSeq (mPar 7 8 (mCall F__law_tables (mCons (mVar 1) (mCons (mVar 3) (mCons (mC (.int 6)) mNil)))) (mCall F__law_any_frame (mCons (mVar 1) (mCons (mVar 3) mNil)))) (mSeq (mPar 9 10 (mUn opRepr (mLst (mCons (mVar 3) (mCons (mVar 7) (mCons (mVar 8) mNil))))) (mCall F__law_by_keys (mCons (mVar 3) (mCons (mVar 7) (mCons (mVar 8) mNil))))) (mSeq (mSet 4 (mShr (mLst (mCons (mCall F_full_rows (mCons (mVar 3) (mCons (mVar 7) (mCons (mVar 8) mNil)))) (mCons (mCallK [2, 1, 0] F_full_rows (mCons (mVar 8) (mCons (mVar 7) (mCons (mVar 3) mNil)))) mNil))))) (mSeq (mIf (mOr (mTest (mOp opNe (mUn opRepr (mVar 4)) (mUn opRepr (mLst (mCons (mVar 10) (mCons (mVar 10) mNil)))))) (mTest (mOp opNe (mVar 10) (mCall F__law_full (mCons (mVar 3) (mCons (mVar 7) (mCons (mVar 8) mNil))))))) (mRet (mC (.bl false))) mNext) (mSeq (mSet 5 (mCall F__law_columns (mCons (mVar 3) (mCons (mVar 8) mNil)))) (mSeq (mFor (srcSeq (mSl (mVar 10) mNoP (mPart (mC (.int 6))))) (.nm 6) L_law_2) (mIf (mTest (mOp opNe (mUn opRepr (mLst (mCons (mVar 3) (mCons (mVar 7) (mCons (mVar 8) mNil))))) (mVar 9))) (mRet (mC (.bl false))) mNext))))))))
/-! law -/
abbrev s_law : Stmt := topS 19
theorem sc_law : FnScope ["_law_script", "_law_deck_here", "_law_turn", "_law_plot", "_law_found", "_law_columns_here", "_law_shelf", "_law_stock", "_law_span", "_law_held", "_law_due", "_law_some", "_law_part", "_law_table", "_law_column"] ["_law_script"] (defScope s_law) := ⟨rfl, rfl, rfl, by decide +kernel, rfl, by decide +kernel, by decide +kernel⟩
noncomputable def B_law : M Dk Fl := (mSeq (mFor (srcRange1 (mC (.int 8))) (.nm 2) L_law_3) (mRet (mC (.bl true))))
def lawSlots : Sl := (List.replicate 15 none).set 1 (some (.sh (.obj 0)))
theorem D_law (good : ∀ ns : List Int, ns.length ≤ 63 → ∃ st' g', B_law lawSlots (deck0 ns) = some (.rt (.bl true), st', g')) {P : Program} {w : World} {K : PySem.W.Frag} {mg : Str → Option Value} {base : Heap} (T : Tx K mg) {f : Addr} {fd : FuncData} (F : Fun K "law" "law" s_law f fd) : DZ.FnG P w K mg base CX0 5 f fd ["_law_script"] (spTrue K) := by
  obtain ⟨fk, fdk, hmk, hkp, hbd, D0⟩ := D__law_deck (P := P) (w := w) (base := base) T
  exact law_of (b := B_law) (i := 1) F sc_law rfl D0 hmk hkp hbd (
    (s_cons (d_for (i_range1 d_int (hm := T.n_range)) (g_name 2) (s_cons (d_set 3 (d_call (D__law_scheme (P := P) (w := w) (K := K) (mg := mg) (base := base) T).fd (a_cons (d_var 1) a_nil) (Nat.le_of_ble_eq_true rfl))) (s_cons (d_par 7 8 (d_call (D__law_tables (P := P) (w := w) (K := K) (mg := mg) (base := base) T).fd (a_cons (d_var 1) (a_cons (d_var 3) (a_cons d_int a_nil))) (Nat.le_of_ble_eq_true rfl)) (d_call (D__law_any_frame (P := P) (w := w) (K := K) (mg := mg) (base := base) T).fd (a_cons (d_var 1) (a_cons (d_var 3) a_nil)) (Nat.le_of_ble_eq_true rfl))) (s_cons (d_par 9 10 (d_repr T.n_repr (d_lst (a_cons (d_var 3) (a_cons (d_var 7) (a_cons (d_var 8) a_nil))))) (d_call (D__law_by_keys (P := P) (w := w) (K := K) (mg := mg) (base := base) T).fd (a_cons (d_var 3) (a_cons (d_var 7) (a_cons (d_var 8) a_nil))) (Nat.le_of_ble_eq_true rfl))) (s_cons (d_set 4 (d_shr (d_lst (a_cons (d_call (D_full_rows (P := P) (w := w) (K := K) (mg := mg) (base := base) T).fd (a_cons (d_var 3) (a_cons (d_var 7) (a_cons (d_var 8) a_nil))) (Nat.le_of_ble_eq_true rfl)) (a_cons (d_callK ["frame", "tables", "scheme"] [2, 1, 0] (D_full_rows (P := P) (w := w) (K := K) (mg := mg) (base := base) T) (k_cons (d_var 8) (k_cons (d_var 7) (k_cons (d_var 3) k_nil))) (Nat.le_of_ble_eq_true rfl)) a_nil))))) (s_cons (d_if (DW.dt (w_or (t_ne (d_repr T.n_repr (d_var 4)) (d_repr T.n_repr (d_lst (a_cons (d_var 10) (a_cons (d_var 10) a_nil))))) (w_or1 (t_ne (d_var 10) (d_call (D__law_full (P := P) (w := w) (K := K) (mg := mg) (base := base) T).fd (a_cons (d_var 3) (a_cons (d_var 7) (a_cons (d_var 8) a_nil))) (Nat.le_of_ble_eq_true rfl)))))) (s_one (d_ret d_bl)) s_nil) (s_cons (d_set 5 (d_call (D__law_columns (P := P) (w := w) (K := K) (mg := mg) (base := base) T).fd (a_cons (d_var 3) (a_cons (d_var 8) a_nil)) (Nat.le_of_ble_eq_true rfl))) (s_cons (d_for (i_seq (d_sl (d_var 10) p_none (p_some d_int))) (g_name 6) (s_cons (d_set 11 (d_tuple T.n_tuple (d_lc [("_law_table", 13)] (i_seq (d_var 8)) (g_name 13) (t_one (t_eq (d_call (D__law_next (P := P) (w := w) (K := K) (mg := mg) (base := base) T).fd (a_cons (d_var 1) (a_cons d_int a_nil)) (Nat.le_of_ble_eq_true rfl)) d_int)) (d_var 13) (ok := fun _ => by kernel_rfl)))) (s_one (d_if (t_ne (d_var 11) (d_tup a_nil)) (s_cons (d_set 12 (d_tuple T.n_tuple (d_lc [("_law_column", 14)] (i_seq (d_call (D__law_columns (P := P) (w := w) (K := K) (mg := mg) (base := base) T).fd (a_cons (d_var 3) (a_cons (d_var 11) a_nil)) (Nat.le_of_ble_eq_true rfl))) (g_name 14) t_nil (d_sub' (d_dictZip T.n_dict T.n_zip (a_cons (d_var 5) (a_cons (d_var 6) a_nil))) (d_var 14)) (ok := fun _ => by kernel_rfl)))) (s_cons (d_set 4 (d_shr (d_lst (a_cons (d_call (D_part_of (P := P) (w := w) (K := K) (mg := mg) (base := base) T).fd (a_cons (d_var 3) (a_cons (d_var 6) (a_cons (d_var 8) (a_cons (d_var 11) a_nil)))) (Nat.le_of_ble_eq_true rfl)) (a_cons (d_callK ["other", "row", "frame", "scheme"] [3, 1, 2, 0] (D_part_of (P := P) (w := w) (K := K) (mg := mg) (base := base) T) (k_cons (d_var 11) (k_cons (d_var 6) (k_cons (d_var 8) (k_cons (d_var 3) k_nil)))) (Nat.le_of_ble_eq_true rfl)) a_nil))))) (s_one (d_if (DW.dt (w_or (t_ne (d_repr T.n_repr (d_var 4)) (d_repr T.n_repr (d_lst (a_cons (d_var 12) (a_cons (d_var 12) a_nil))))) (w_or1 (t_nin (d_var 12) (d_call (D_full_rows (P := P) (w := w) (K := K) (mg := mg) (base := base) T).fd (a_cons (d_var 3) (a_cons (d_var 7) (a_cons (d_var 11) a_nil))) (Nat.le_of_ble_eq_true rfl)))))) (s_one (d_ret d_bl)) s_nil)))) s_nil)))) (s_one (d_if (t_ne (d_repr T.n_repr (d_lst (a_cons (d_var 3) (a_cons (d_var 7) (a_cons (d_var 8) a_nil))))) (d_var 9)) (s_one (d_ret d_bl)) s_nil)))))))))) (s_one (d_ret d_bl)))) (hgood := good)
/-! the head -/
def fn : List He.DefD := [⟨("columns_in", none), "columns_in", "columns_in", defArgs s_columns_in, defBody s_columns_in, defScope s_columns_in, [], []⟩,
  ⟨("columns_of", none), "columns_of", "columns_of", defArgs s_columns_of, defBody s_columns_of, defScope s_columns_of, [], []⟩,
  ⟨("fitting", none), "fitting", "fitting", defArgs s_fitting, defBody s_fitting, defScope s_fitting, [], []⟩,
  ⟨("full_rows", none), "full_rows", "full_rows", defArgs s_full_rows, defBody s_full_rows, defScope s_full_rows, [], []⟩,
  ⟨("part_of", none), "part_of", "part_of", defArgs s_part_of, defBody s_part_of, defScope s_part_of, [], []⟩,
  ⟨("_law_deck", none), "_law_deck", "_law_deck", defArgs s__law_deck, defBody s__law_deck, defScope s__law_deck, [], []⟩,
  ⟨("_law_next", none), "_law_next", "_law_next", defArgs s__law_next, defBody s__law_next, defScope s__law_next, [], []⟩,
  ⟨("_law_one", none), "_law_one", "_law_one", defArgs s__law_one, defBody s__law_one, defScope s__law_one, [], []⟩,
  ⟨("_law_dials", none), "_law_dials", "_law_dials", defArgs s__law_dials, defBody s__law_dials, defScope s__law_dials, [], []⟩,
  ⟨("_law_scheme", none), "_law_scheme", "_law_scheme", defArgs s__law_scheme, defBody s__law_scheme, defScope s__law_scheme, [], []⟩,
  ⟨("_law_tables", none), "_law_tables", "_law_tables", defArgs s__law_tables, defBody s__law_tables, defScope s__law_tables, [], []⟩,
  ⟨("_law_columns", none), "_law_columns", "_law_columns", defArgs s__law_columns, defBody s__law_columns, defScope s__law_columns, [], []⟩,
  ⟨("_law_full", none), "_law_full", "_law_full", defArgs s__law_full, defBody s__law_full, defScope s__law_full, [], []⟩,
  ⟨("_law_any_frame", none), "_law_any_frame", "_law_any_frame", defArgs s__law_any_frame, defBody s__law_any_frame, defScope s__law_any_frame, [], []⟩,
  ⟨("_law_may_be", none), "_law_may_be", "_law_may_be", defArgs s__law_may_be, defBody s__law_may_be, defScope s__law_may_be, [], []⟩,
  ⟨("_law_by_keys", none), "_law_by_keys", "_law_by_keys", defArgs s__law_by_keys, defBody s__law_by_keys, defScope s__law_by_keys, [], []⟩,
  ⟨("law", none), "law", "law", defArgs s_law, defBody s_law, defScope s_law, [], []⟩]
def tb : List (Str × List D) := []
def fa : List He.Fa := [.glo "columns_in", .glo "columns_of", .glo "fitting", .glo "full_rows", .glo "part_of", .glo "_law_deck", .glo "_law_next", .glo "_law_one", .glo "_law_dials", .glo "_law_scheme", .glo "_law_tables", .glo "_law_columns", .glo "_law_full", .glo "_law_any_frame", .glo "_law_may_be", .glo "_law_by_keys", .glo "law", .free "abs", .free "dict", .free "enumerate", .free "int", .free "len", .free "range", .free "repr", .free "set", .free "sorted", .free "tuple", .free "zip"]
abbrev R : PySem.W.OpenRow := PySem.W.OpenLaw.row PySem.Challenge.rw_keyrates_k07_full_rows_and_parts
abbrev hk : PySem.W.Hook := hookE 4 fa fn tb
def ob (s : PySem.W.SharedT) : He.AlD × Bool := obsEG 4 fa fn tb (HandSHeadRun.getT s)
theorem ob_eq (s : PySem.W.SharedT) : ob s = hk.obs s.abs := obsEG_eq (HandSHeadRun.getT_eq s)
def names : List PySem.Str := ["columns_in", "columns_of", "fitting", "full_rows", "part_of", "_law_deck", "_law_next", "_law_one", "_law_dials", "_law_scheme", "_law_tables", "_law_columns", "_law_full", "_law_any_frame", "_law_by_keys", "_law_may_be"]
theorem run (w : World) : HandSHeadRun.RunEq R (PySem.W.view R.prog [19]) hk ob 4000 names w := by
  intro os
  kernel_rfl
theorem facts {K : PySem.W.Frag} {h : Heap} {mg : Str → Option Value} (X : K.In h) (G : h.Ns mainGlobals mg) (ce : SaysE fa fn tb K) : Tx K mg :=
  let c := ce.d
  {
    d_columns_in := by
      obtain ⟨fd, F⟩ := c.def_ 0 (d := ⟨("columns_in", none), "columns_in", "columns_in", defArgs s_columns_in, defBody s_columns_in, defScope s_columns_in, [], []⟩) rfl
      exact ⟨_, fd, funOf F, He.glo_ok X G (c.fact 0 (f := .glo "columns_in") rfl), FunD.bindsN (ps := ["scheme", "table"]) F fun _ _ _ _ _ _ us hl => match us, hl with | [_, _], _ => rfl, fun _ h => nomatch h⟩
    d_columns_of := by
      obtain ⟨fd, F⟩ := c.def_ 1 (d := ⟨("columns_of", none), "columns_of", "columns_of", defArgs s_columns_of, defBody s_columns_of, defScope s_columns_of, [], []⟩) rfl
      exact ⟨_, fd, funOf F, He.glo_ok X G (c.fact 1 (f := .glo "columns_of") rfl), FunD.bindsN (ps := ["scheme", "frame"]) F fun _ _ _ _ _ _ us hl => match us, hl with | [_, _], _ => rfl, fun _ h => nomatch h⟩
    d_fitting := by
      obtain ⟨fd, F⟩ := c.def_ 2 (d := ⟨("fitting", none), "fitting", "fitting", defArgs s_fitting, defBody s_fitting, defScope s_fitting, [], []⟩) rfl
      exact ⟨_, fd, funOf F, He.glo_ok X G (c.fact 2 (f := .glo "fitting") rfl), FunD.bindsN (ps := ["row", "columns", "keys"]) F fun _ _ _ _ _ _ us hl => match us, hl with | [_, _, _], _ => rfl, fun _ h => nomatch h⟩
    d_full_rows := by
      obtain ⟨fd, F⟩ := c.def_ 3 (d := ⟨("full_rows", none), "full_rows", "full_rows", defArgs s_full_rows, defBody s_full_rows, defScope s_full_rows, [], []⟩) rfl
      exact ⟨_, fd, funOf F, He.glo_ok X G (c.fact 3 (f := .glo "full_rows") rfl), FunD.bindsN (ps := ["scheme", "tables", "frame"]) F fun _ _ _ _ _ _ us hl => match us, hl with | [_, _, _], _ => rfl, fun q hq => by
        simp only [List.mem_cons, List.not_mem_nil, or_false] at hq
        rcases hq with rfl
        · exact kwB_of F fun _ _ _ _ _ _ ws hl => match ws, hl with | [_, _, _], _ => rfl⟩
    d_part_of := by
      obtain ⟨fd, F⟩ := c.def_ 4 (d := ⟨("part_of", none), "part_of", "part_of", defArgs s_part_of, defBody s_part_of, defScope s_part_of, [], []⟩) rfl
      exact ⟨_, fd, funOf F, He.glo_ok X G (c.fact 4 (f := .glo "part_of") rfl), FunD.bindsN (ps := ["scheme", "row", "frame", "other"]) F fun _ _ _ _ _ _ us hl => match us, hl with | [_, _, _, _], _ => rfl, fun q hq => by
        simp only [List.mem_cons, List.not_mem_nil, or_false] at hq
        rcases hq with rfl
        · exact kwB_of F fun _ _ _ _ _ _ ws hl => match ws, hl with | [_, _, _, _], _ => rfl⟩
    d__law_deck := by
      obtain ⟨fd, F⟩ := c.def_ 5 (d := ⟨("_law_deck", none), "_law_deck", "_law_deck", defArgs s__law_deck, defBody s__law_deck, defScope s__law_deck, [], []⟩) rfl
      exact ⟨_, fd, funOf F, He.glo_ok X G (c.fact 5 (f := .glo "_law_deck") rfl), FunD.bindsN (ps := ["_law_script"]) F fun _ _ _ _ _ _ us hl => match us, hl with | [_], _ => rfl⟩
    d__law_next := by
      obtain ⟨fd, F⟩ := c.def_ 6 (d := ⟨("_law_next", none), "_law_next", "_law_next", defArgs s__law_next, defBody s__law_next, defScope s__law_next, [], []⟩) rfl
      exact ⟨_, fd, funOf F, He.glo_ok X G (c.fact 6 (f := .glo "_law_next") rfl), FunD.bindsN (ps := ["_law_deck_here", "_law_many"]) F fun _ _ _ _ _ _ us hl => match us, hl with | [_, _], _ => rfl, fun _ h => nomatch h⟩
    d__law_one := by
      obtain ⟨fd, F⟩ := c.def_ 7 (d := ⟨("_law_one", none), "_law_one", "_law_one", defArgs s__law_one, defBody s__law_one, defScope s__law_one, [], []⟩) rfl
      exact ⟨_, fd, funOf F, He.glo_ok X G (c.fact 7 (f := .glo "_law_one") rfl), FunD.bindsN (ps := ["_law_deck_here", "_law_items"]) F fun _ _ _ _ _ _ us hl => match us, hl with | [_, _], _ => rfl, fun _ h => nomatch h⟩
    d__law_dials := by
      obtain ⟨fd, F⟩ := c.def_ 8 (d := ⟨("_law_dials", none), "_law_dials", "_law_dials", defArgs s__law_dials, defBody s__law_dials, defScope s__law_dials, [], []⟩) rfl
      exact ⟨_, fd, funOf F, He.glo_ok X G (c.fact 8 (f := .glo "_law_dials") rfl), FunD.bindsN (ps := ["_law_deck_here"]) F fun _ _ _ _ _ _ us hl => match us, hl with | [_], _ => rfl, fun _ h => nomatch h⟩
    d__law_scheme := by
      obtain ⟨fd, F⟩ := c.def_ 9 (d := ⟨("_law_scheme", none), "_law_scheme", "_law_scheme", defArgs s__law_scheme, defBody s__law_scheme, defScope s__law_scheme, [], []⟩) rfl
      exact ⟨_, fd, funOf F, He.glo_ok X G (c.fact 9 (f := .glo "_law_scheme") rfl), FunD.bindsN (ps := ["_law_deck_here"]) F fun _ _ _ _ _ _ us hl => match us, hl with | [_], _ => rfl, fun _ h => nomatch h⟩
    d__law_tables := by
      obtain ⟨fd, F⟩ := c.def_ 10 (d := ⟨("_law_tables", none), "_law_tables", "_law_tables", defArgs s__law_tables, defBody s__law_tables, defScope s__law_tables, [], []⟩) rfl
      exact ⟨_, fd, funOf F, He.glo_ok X G (c.fact 10 (f := .glo "_law_tables") rfl), FunD.bindsN (ps := ["_law_deck_here", "_law_plot", "_law_most"]) F fun _ _ _ _ _ _ us hl => match us, hl with | [_, _, _], _ => rfl, fun _ h => nomatch h⟩
    d__law_columns := by
      obtain ⟨fd, F⟩ := c.def_ 11 (d := ⟨("_law_columns", none), "_law_columns", "_law_columns", defArgs s__law_columns, defBody s__law_columns, defScope s__law_columns, [], []⟩) rfl
      exact ⟨_, fd, funOf F, He.glo_ok X G (c.fact 11 (f := .glo "_law_columns") rfl), FunD.bindsN (ps := ["_law_plot", "_law_span"]) F fun _ _ _ _ _ _ us hl => match us, hl with | [_, _], _ => rfl, fun _ h => nomatch h⟩
    d__law_full := by
      obtain ⟨fd, F⟩ := c.def_ 12 (d := ⟨("_law_full", none), "_law_full", "_law_full", defArgs s__law_full, defBody s__law_full, defScope s__law_full, [], []⟩) rfl
      exact ⟨_, fd, funOf F, He.glo_ok X G (c.fact 12 (f := .glo "_law_full") rfl), FunD.bindsN (ps := ["_law_plot", "_law_stock", "_law_span"]) F fun _ _ _ _ _ _ us hl => match us, hl with | [_, _, _], _ => rfl, fun _ h => nomatch h⟩
    d__law_any_frame := by
      obtain ⟨fd, F⟩ := c.def_ 13 (d := ⟨("_law_any_frame", none), "_law_any_frame", "_law_any_frame", defArgs s__law_any_frame, defBody s__law_any_frame, defScope s__law_any_frame, [], []⟩) rfl
      exact ⟨_, fd, funOf F, He.glo_ok X G (c.fact 13 (f := .glo "_law_any_frame") rfl), FunD.bindsN (ps := ["_law_deck_here", "_law_plot"]) F fun _ _ _ _ _ _ us hl => match us, hl with | [_, _], _ => rfl, fun _ h => nomatch h⟩
    d__law_may_be := by
      obtain ⟨fd, F⟩ := c.def_ 14 (d := ⟨("_law_may_be", none), "_law_may_be", "_law_may_be", defArgs s__law_may_be, defBody s__law_may_be, defScope s__law_may_be, [], []⟩) rfl
      exact ⟨_, fd, funOf F, He.glo_ok X G (c.fact 14 (f := .glo "_law_may_be") rfl), FunD.bindsN (ps := ["_law_plot", "_law_stock", "_law_span", "_law_columns_here", "_law_shelf"]) F fun _ _ _ _ _ _ us hl => match us, hl with | [_, _, _, _, _], _ => rfl, fun _ h => nomatch h⟩
    d__law_by_keys := by
      obtain ⟨fd, F⟩ := c.def_ 15 (d := ⟨("_law_by_keys", none), "_law_by_keys", "_law_by_keys", defArgs s__law_by_keys, defBody s__law_by_keys, defScope s__law_by_keys, [], []⟩) rfl
      exact ⟨_, fd, funOf F, He.glo_ok X G (c.fact 15 (f := .glo "_law_by_keys") rfl), FunD.bindsN (ps := ["_law_plot", "_law_stock", "_law_span"]) F fun _ _ _ _ _ _ us hl => match us, hl with | [_, _, _], _ => rfl, fun _ h => nomatch h⟩
    n_abs := He.free_ok X G (c.fact 17 (f := .free "abs") rfl)
    n_dict := He.free_ok X G (c.fact 18 (f := .free "dict") rfl)
    n_enumerate := He.free_ok X G (c.fact 19 (f := .free "enumerate") rfl)
    n_int := He.free_ok X G (c.fact 20 (f := .free "int") rfl)
    n_len := He.free_ok X G (c.fact 21 (f := .free "len") rfl)
    n_range := He.free_ok X G (c.fact 22 (f := .free "range") rfl)
    n_repr := He.free_ok X G (c.fact 23 (f := .free "repr") rfl)
    n_set := He.free_ok X G (c.fact 24 (f := .free "set") rfl)
    n_sorted := He.free_ok X G (c.fact 25 (f := .free "sorted") rfl)
    n_tuple := He.free_ok X G (c.fact 26 (f := .free "tuple") rfl)
    n_zip := He.free_ok X G (c.fact 27 (f := .free "zip") rfl)
  }
theorem holds (good : ∀ ns : List Int, ns.length ≤ 63 → ∃ st' g', B_law lawSlots (deck0 ns) = some (.rt (.bl true), st', g')) : PySem.Challenge.rw_keyrates_k07_full_rows_and_parts.Holds := by
  w_on; o_law
  refine HandSHeadRun.head_any (r := PySem.W.OpenLaw.row PySem.Challenge.rw_keyrates_k07_full_rows_and_parts) (q := PySem.W.view (PySem.W.OpenLaw.row PySem.Challenge.rw_keyrates_k07_full_rows_and_parts).prog [19]) (H := hk) (ob := ob) (M := 4000) (loose := names) (d := HandSHeadRun.topDef (PySem.W.OpenLaw.row PySem.Challenge.rw_keyrates_k07_full_rows_and_parts).prog 19) (kwd := []) ob_eq
    (by kernel_rfl) (fun s => by kernel_rfl) run (by kernel_rfl) (by kernel_rfl) (by kernel_rfl) (by rfl) (by first | assumption | decide +kernel) (by decide +kernel) ⟨rfl, rfl, rfl, rfl, rfl, by decide +kernel⟩ ?hw ?hc
  case hw => w_witness2
  case hc =>
    refine walkGE (l := PySem.Challenge.rw_keyrates_k07_full_rows_and_parts) (n := 63) (k := 5) (x := "_law_script") rfl (by decide) (by kernel_rfl) ⟨rfl, by decide, by decide⟩ ?F
    intro w mg a h Y G hmg0
    obtain ⟨K, KX, ce⟩ := Y
    have c := ce.d
    have e : (HandSHeadRun.topDef (PySem.W.OpenLaw.row PySem.Challenge.rw_keyrates_k07_full_rows_and_parts).prog 19).name = ("law" : PySem.Str) := by kernel_rfl
    rw [e] at hmg0
    obtain ⟨fd, F⟩ := c.def_ 16 (d := ⟨("law", none), "law", "law", defArgs s_law, defBody s_law, defScope s_law, [], []⟩) rfl
    have e2 := hmg0.symm.trans (He.glo_ok KX G (c.fact 16 (f := .glo "law") rfl))
    cases e2
    have b := FunD.bindsA (ps := ["_law_script"]) F fun _ _ _ _ _ _ us hl => match us, hl with | [_], _ => rfl
    exact ⟨K, fd, spTrue K, KX, fun s v => b s [v] rfl, fun H a ns hl _ hS => ⟨a, ns, rfl, hS, hl, fun _ => rfl⟩, fun base _ _ => D_law good (facts KX G ce) (funOf F)⟩
end K07
namespace K07
open PySem PySem.Spec PyProof.Rows L2 DL
noncomputable def T_law : TM Bool :=
  (bindF (bindT (optT (rngT 8)) fun l72 => forF (fun i4 b3 => (bindT (callT F__law_scheme schP [eDk ()]) fun v5 => (bindT (bindT (callT F__law_tables tabsE [eDk (), schP v5, D.int 6]) fun x7 => bindT (callT F__law_any_frame (eT D.str) [eDk (), schP v5]) fun y8 => pureT (x7, y8)) fun v6 => (bindT (bindT (bindT (optT (l1 opRepr (eL eA [schP v5, tabsE v6.1, eT D.str v6.2]))) fun a11 => optT (unE D.str a11)) fun x12 => bindT (callT F__law_by_keys rowsE [schP v5, tabsE v6.1, eT D.str v6.2]) fun y13 => pureT (x12, y13)) fun v9 => (bindT (bindT (bindT (callT F_full_rows rowsE [schP v5, tabsE v6.1, eT D.str v6.2]) fun x17 => bindT (bindT (callT F_full_rows rowsE [schP v5, tabsE v6.1, eT D.str v6.2]) fun x15 => bindT (pureT ()) fun y16 => pureT (x15, y16)) fun y18 => pureT (x17, y18)) fun a19 => pureT [a19.1, a19.2.1]) fun v14 => (bindT (bindT (bindT (bindT (optT (l1 opRepr (eL rowsE v14))) fun a21 => optT (unE D.str a21)) fun x24 => bindT (bindT (optT (l1 opRepr (eL rowsE [v9.2, v9.2]))) fun a23 => optT (unE D.str a23)) fun y25 => optT (some (!eqB x24 y25))) fun b28 => if b28 = true then pureT true else (bindT (pureT v9.2) fun x26 => bindT (callT F__law_full rowsE [schP v5, tabsE v6.1, eT D.str v6.2]) fun y27 => optT (some (!eqB x26 y27)))) fun b29 => if b29 = true then (bindT (pureT false) fun r71 => pureT (.rt r71)) else (bindT (callT F__law_columns (eT D.str) [schP v5, eT D.str v6.2]) fun v30 => (bindFF (forF (fun i33 b32 => (bindT (bindT (compT (fun i35 => (bindT (callT F__law_next D.int [eDk (), D.int 2]) fun x36 => bindT (pureT (0 : Int)) fun y37 => optT (some (eqB x36 y37)))) (fun i35 => (pureT i35)) v6.2) fun x38 => optT (some (x38))) fun v34 => (bindT (pureT (!eqB v34 [] : Bool)) fun b39 => if b39 = true then (bindT (bindT (bindT (callT F__law_columns (eT D.str) [schP v5, eT D.str v34]) fun l46 => mapT (fun i41 => (optT (aget (mkd (v30.zip i33)) i41))) l46) fun x47 => optT (some (x47))) fun v40 => (bindT (bindT (bindT (callT F_part_of rowE [schP v5, rowE i33, eT D.str v6.2, eT D.str v34]) fun x51 => bindT (bindT (callT F_part_of rowE [schP v5, rowE i33, eT D.str v6.2, eT D.str v34]) fun x49 => bindT (pureT ()) fun y50 => pureT (x49, y50)) fun y52 => pureT (x51, y52)) fun a53 => pureT [a53.1, a53.2.1]) fun v48 => (bindT (bindT (bindT (bindT (optT (l1 opRepr (eL rowE v48))) fun a55 => optT (unE D.str a55)) fun x58 => bindT (bindT (optT (l1 opRepr (eL (eT D.int) [v40, v40]))) fun a57 => optT (unE D.str a57)) fun y59 => optT (some (!eqB x58 y59))) fun b62 => if b62 = true then pureT true else (bindT (pureT v40) fun x60 => bindT (callT F_full_rows rowsE [schP v5, tabsE v6.1, eT D.str v34]) fun y61 => optT (some (!inB x60 y61)))) fun b63 => if b63 = true then (bindT (pureT false) fun r64 => pureT (.rt r64)) else (pureT (.nx ()))))) else (pureT (.nx ()))))) (cutT v9.2 none (some 6)) ()) fun v31 => (bindT (bindT (bindT (optT (l1 opRepr (eL eA [schP v5, tabsE v6.1, eT D.str v6.2]))) fun a66 => optT (unE D.str a66)) fun x67 => bindT (pureT v9.1) fun y68 => optT (some (!eqB x67 y68))) fun b69 => if b69 = true then (bindT (pureT false) fun r70 => pureT (.rt r70)) else (pureT (.nx ()))))))))))) l72 ()) fun v1 => (pureT true))
theorem S_law (g : Dk) (h : wpT T_law g fun b _ => b = true) : ∃ st' g', B_law lawSlots g = some (.rt (.bl true), st', g') := by
  obtain ⟨r, g', h, rfl⟩ := h
  have hb : JB [none, some (.sh (eDk ())), none, none, none, none, none, none, none, none, none, none, none, none, none] B_law T_law D.bl := by
    unfold T_law B_law
    exact (sb_seqF (sf_for (Γb := fun b3 => [none, some (.sh (eDk ())), none, none, none, none, none, none, none, none, none, none, none, none, none]) (Γab := fun i4 b3 => [none, some (.sh (eDk ())), some (.sh (D.int i4)), none, none, none, none, none, none, none, none, none, none, none, none]) (b0 := ()) (ea := D.int) (er := D.bl) (ei_range1V (EN.tk (en_c D.int 8 rfl))) (.n (.s (.n (.n (.n (.n (.n (.n (.n (.n (.n (.n (.n (.n (.n .nil))))))))))))))) (fun i4 b3 => (as_nm (lt_b rfl) rfl)) (fun i4 b3 => (sf_seq (sn_set (Γ1 := [none, some (.sh (eDk ())), some (.sh (D.int i4)), none, none, none, none, none, none, none, none, none, none, none, none]) (ea := schP) (Γ' := fun v5 => [none, some (.sh (eDk ())), some (.sh (D.int i4)), some (.sh (schP v5)), none, none, none, none, none, none, none, none, none, none, none]) (en_callV (ea_consV (EN.tk (en_var eDk () rfl)) ea_nil) rfl) (lt_b rfl) (fun _ => rfl)) (fun v5 => (sf_seq (jn_par (Γ2 := [none, some (.sh (eDk ())), some (.sh (D.int i4)), some (.sh (schP v5)), none, none, none, none, none, none, none, none, none, none, none]) (ea := tabsE) (eb := eT D.str) (Γ' := fun v6 => [none, some (.sh (eDk ())), some (.sh (D.int i4)), some (.sh (schP v5)), none, none, none, some (.sh (tabsE v6.1)), some (.sh (eT D.str v6.2)), none, none, none, none, none, none]) (en_callV (ea_consV (EN.tk (en_var eDk () rfl)) (ea_consV (EN.tk (en_var schP v5 rfl)) (ea_consV (EN.tk (en_c D.int 6 rfl)) ea_nil))) rfl) (en_callV (ea_consV (EN.tk (en_var eDk () rfl)) (ea_consV (EN.tk (en_var schP v5 rfl)) ea_nil)) rfl) (lt_b rfl) (lt_b rfl) (fun _ => rfl)) (fun v6 => (sf_seq (jn_par (Γ2 := [none, some (.sh (eDk ())), some (.sh (D.int i4)), some (.sh (schP v5)), none, none, none, some (.sh (tabsE v6.1)), some (.sh (eT D.str v6.2)), none, none, none, none, none, none]) (ea := D.str) (eb := rowsE) (Γ' := fun v9 => [none, some (.sh (eDk ())), some (.sh (D.int i4)), some (.sh (schP v5)), none, none, none, some (.sh (tabsE v6.1)), some (.sh (eT D.str v6.2)), some (.sh (D.str v9.1)), some (.sh (rowsE v9.2)), none, none, none, none]) (EN.cast (ec := D.str) (en_unP (f := (fun x10 => l1 opRepr (eL eA x10))) (ec := eA) (EN.pk (en_lstV (z := [schP v5, tabsE v6.1, eT D.str v6.2]) (ec := eL eA) (ea_consV (EN.tk (en_convV (ec := eA) (z := schP v5) (en_var schP v5 rfl) rfl)) (ea_consV (EN.tk (en_convV (ec := eA) (z := tabsE v6.1) (en_var tabsE v6.1 rfl) rfl)) (ea_consV (EN.tk (en_convV (ec := eA) (z := eT D.str v6.2) (en_var (eT D.str) v6.2 rfl) rfl)) ea_nil))) rfl (le_b rfl))) (o_l1 (e := eL eA)))) (en_callV (ea_consV (EN.tk (en_var schP v5 rfl)) (ea_consV (EN.tk (en_var tabsE v6.1 rfl)) (ea_consV (EN.tk (en_var (eT D.str) v6.2 rfl)) ea_nil))) rfl) (lt_b rfl) (lt_b rfl) (fun _ => rfl)) (fun v9 => (sf_seq (sn_set (Γ1 := [none, some (.sh (eDk ())), some (.sh (D.int i4)), some (.sh (schP v5)), none, none, none, some (.sh (tabsE v6.1)), some (.sh (eT D.str v6.2)), some (.sh (D.str v9.1)), some (.sh (rowsE v9.2)), none, none, none, none]) (ea := eL rowsE) (Γ' := fun v14 => [none, some (.sh (eDk ())), some (.sh (D.int i4)), some (.sh (schP v5)), some (.sh (eL rowsE v14)), none, none, some (.sh (tabsE v6.1)), some (.sh (eT D.str v6.2)), some (.sh (D.str v9.1)), some (.sh (rowsE v9.2)), none, none, none, none]) (en_shr (EN.tk (en_lst (f := fun (a19 : (List (List Int)) × (List (List Int)) × Unit) => [a19.1, a19.2.1]) (ec := eL rowsE) (ea_cons (EN.tk (en_callV (ea_consV (EN.tk (en_var schP v5 rfl)) (ea_consV (EN.tk (en_var tabsE v6.1 rfl)) (ea_consV (EN.tk (en_var (eT D.str) v6.2 rfl)) ea_nil))) rfl)) (ea_cons (EN.tk (en_callKV (ea_consV (EN.tk (en_var (eT D.str) v6.2 rfl)) (ea_consV (EN.tk (en_var tabsE v6.1 rfl)) (ea_consV (EN.tk (en_var schP v5 rfl)) ea_nil))) rfl)) ea_nil)) (fun _ => rfl) (fun _ => le_b rfl)))) (lt_b rfl) (fun _ => rfl)) (fun v14 => (sf_ifret (eb_or (eb_test (en_op (f := (fun x24 y25 => some (!eqB x24 y25))) (ec := D.bl) (EN.pk (EN.cast (ec := D.str) (en_unP (f := (fun x20 => l1 opRepr (eL rowsE x20))) (ec := eA) (EN.pk (en_var (eL rowsE) v14 rfl)) (o_l1 (e := eL rowsE))))) (EN.pk (EN.cast (ec := D.str) (en_unP (f := (fun x22 => l1 opRepr (eL rowsE x22))) (ec := eA) (EN.pk (en_lstV (z := [v9.2, v9.2]) (ec := eL rowsE) (ea_consV (EN.tk (en_var rowsE v9.2 rfl)) (ea_consV (EN.tk (en_var rowsE v9.2 rfl)) ea_nil)) rfl (le_b rfl))) (o_l1 (e := eL rowsE))))) (fun _ _ _ h => by cases h; exact (o_ne (e := D.str) _ _)))) (eb_test (en_op (f := (fun x26 y27 => some (!eqB x26 y27))) (ec := D.bl) (EN.pk (en_var rowsE v9.2 rfl)) (EN.pk (en_callV (ea_consV (EN.tk (en_var schP v5 rfl)) (ea_consV (EN.tk (en_var tabsE v6.1 rfl)) (ea_consV (EN.tk (en_var (eT D.str) v6.2 rfl)) ea_nil))) rfl)) (fun _ _ _ h => by cases h; exact (o_ne (e := rowsE) _ _))))) (sb_ret (EN.tk (en_c D.bl false rfl))) (sf_seq (sn_set (Γ1 := [none, some (.sh (eDk ())), some (.sh (D.int i4)), some (.sh (schP v5)), some (.sh (eL rowsE v14)), none, none, some (.sh (tabsE v6.1)), some (.sh (eT D.str v6.2)), some (.sh (D.str v9.1)), some (.sh (rowsE v9.2)), none, none, none, none]) (ea := eT D.str) (Γ' := fun v30 => [none, some (.sh (eDk ())), some (.sh (D.int i4)), some (.sh (schP v5)), some (.sh (eL rowsE v14)), some (.sh (eT D.str v30)), none, some (.sh (tabsE v6.1)), some (.sh (eT D.str v6.2)), some (.sh (D.str v9.1)), some (.sh (rowsE v9.2)), none, none, none, none]) (en_callV (ea_consV (EN.tk (en_var schP v5 rfl)) (ea_consV (EN.tk (en_var (eT D.str) v6.2 rfl)) ea_nil)) rfl) (lt_b rfl) (fun _ => rfl)) (fun v30 => (sf_seqF (sf_forV (Γb := fun b32 => [none, some (.sh (eDk ())), some (.sh (D.int i4)), some (.sh (schP v5)), none, some (.sh (eT D.str v30)), none, some (.sh (tabsE v6.1)), some (.sh (eT D.str v6.2)), some (.sh (D.str v9.1)), some (.sh (rowsE v9.2)), none, none, none, none]) (Γab := fun i33 b32 => [none, some (.sh (eDk ())), some (.sh (D.int i4)), some (.sh (schP v5)), none, some (.sh (eT D.str v30)), some (.sh (rowE i33)), some (.sh (tabsE v6.1)), some (.sh (eT D.str v6.2)), some (.sh (D.str v9.1)), some (.sh (rowsE v9.2)), none, none, none, none]) (b0 := ()) (ea := rowE) (er := D.bl) (ei_seqT (ea := rowE) (EN.tk (en_slV (z := cutT v9.2 none (some 6)) (ec := rowsE) (EN.pk (en_var rowsE v9.2 rfl)) po_noneT (po_someV (en_c D.int 6 rfl)) (o_cutT (e := rowE) _ _ _)))) (.n (.s (.s (.s (.n (.s (.n (.s (.s (.s (.s (.n (.n (.n (.n .nil))))))))))))))) (fun i33 b32 => (as_nm (lt_b rfl) rfl)) (fun i33 b32 => (sf_seq (sn_set (Γ1 := [none, some (.sh (eDk ())), some (.sh (D.int i4)), some (.sh (schP v5)), none, some (.sh (eT D.str v30)), some (.sh (rowE i33)), some (.sh (tabsE v6.1)), some (.sh (eT D.str v6.2)), some (.sh (D.str v9.1)), some (.sh (rowsE v9.2)), none, none, none, none]) (ea := eT D.str) (Γ' := fun v34 => [none, some (.sh (eDk ())), some (.sh (D.int i4)), some (.sh (schP v5)), none, some (.sh (eT D.str v30)), some (.sh (rowE i33)), some (.sh (tabsE v6.1)), some (.sh (eT D.str v6.2)), some (.sh (D.str v9.1)), some (.sh (rowsE v9.2)), some (.sh (eT D.str v34)), none, none, none]) (en_un (f := (fun x38 => some (x38))) (ec := eT D.str) (EN.pk (en_lcS (Γa := fun i35 => [none, some (.sh (eDk ())), some (.sh (D.int i4)), some (.sh (schP v5)), none, some (.sh (eT D.str v30)), some (.sh (rowE i33)), some (.sh (tabsE v6.1)), some (.sh (eT D.str v6.2)), some (.sh (D.str v9.1)), some (.sh (rowsE v9.2)), none, none, some (.sh (D.str i35)), none]) (ea := D.str) (eb := D.str) (ei_seqT (ea := D.str) (EN.tk (en_var (eT D.str) v6.2 rfl))) rfl (fun i35 => (as_nm (lt_b rfl) rfl)) (fun _ => rfl) (fun i35 => (eb_test (en_op (f := (fun x36 y37 => some (eqB x36 y37))) (ec := D.bl) (EN.pk (en_callV (ea_consV (EN.tk (en_var eDk () rfl)) (ea_consV (EN.tk (en_c D.int 2 rfl)) ea_nil)) rfl)) (EN.pk (en_c D.int 0 rfl)) (fun _ _ _ h => by cases h; exact (o_eq (e := D.int) _ _))))) (fun i35 => (EN.tk (en_var D.str i35 rfl))))) (fun _ _ h => by cases h; exact (o_tupL (e := D.str) _))) (lt_b rfl) (fun _ => rfl)) (fun v34 => (sf_if (eb_test (en_opV (z := !eqB v34 []) (ec := D.bl) (EN.pk (en_var (eT D.str) v34 rfl)) (EN.pk (en_tupV (z := []) (ec := eT D.str) ea_nil rfl (le_b rfl))) (o_ne (e := (eT D.str)) _ _))) (sf_seq (sn_set (Γ1 := [none, some (.sh (eDk ())), some (.sh (D.int i4)), some (.sh (schP v5)), none, some (.sh (eT D.str v30)), some (.sh (rowE i33)), some (.sh (tabsE v6.1)), some (.sh (eT D.str v6.2)), some (.sh (D.str v9.1)), some (.sh (rowsE v9.2)), some (.sh (eT D.str v34)), none, none, none]) (ea := eT D.int) (Γ' := fun v40 => [none, some (.sh (eDk ())), some (.sh (D.int i4)), some (.sh (schP v5)), none, some (.sh (eT D.str v30)), some (.sh (rowE i33)), some (.sh (tabsE v6.1)), some (.sh (eT D.str v6.2)), some (.sh (D.str v9.1)), some (.sh (rowsE v9.2)), some (.sh (eT D.str v34)), some (.sh (eT D.int v40)), none, none]) (en_un (f := (fun x47 => some (x47))) (ec := eT D.int) (EN.pk (en_map (Γa := fun i41 => [none, some (.sh (eDk ())), some (.sh (D.int i4)), some (.sh (schP v5)), none, some (.sh (eT D.str v30)), some (.sh (rowE i33)), some (.sh (tabsE v6.1)), some (.sh (eT D.str v6.2)), some (.sh (D.str v9.1)), some (.sh (rowsE v9.2)), some (.sh (eT D.str v34)), none, none, some (.sh (D.str i41))]) (ea := D.str) (eb := D.int) (ei_seqT (ea := D.str) (EN.tk (en_callV (ea_consV (EN.tk (en_var schP v5 rfl)) (ea_consV (EN.tk (en_var (eT D.str) v34 rfl)) ea_nil)) rfl))) rfl (fun i41 => (as_nm (lt_b rfl) rfl)) (fun _ => rfl) (fun i41 => (EN.tk (en_opP (f := aget) (ec := D.int) (EN.pk (en_dictZipV (eb := D.int) (EN.tk (en_var (eT D.str) v30 rfl)) (EN.tk (en_var rowE i33 rfl)))) (EN.pk (en_var D.str i41 rfl)) (o_ixK (e := D.int))))))) (fun _ _ h => by cases h; exact (o_tupL (e := D.int) _))) (lt_b rfl) (fun _ => rfl)) (fun v40 => (sf_seq (sn_set (Γ1 := [none, some (.sh (eDk ())), some (.sh (D.int i4)), some (.sh (schP v5)), none, some (.sh (eT D.str v30)), some (.sh (rowE i33)), some (.sh (tabsE v6.1)), some (.sh (eT D.str v6.2)), some (.sh (D.str v9.1)), some (.sh (rowsE v9.2)), some (.sh (eT D.str v34)), some (.sh (eT D.int v40)), none, none]) (ea := eL rowE) (Γ' := fun v48 => [none, some (.sh (eDk ())), some (.sh (D.int i4)), some (.sh (schP v5)), some (.sh (eL rowE v48)), some (.sh (eT D.str v30)), some (.sh (rowE i33)), some (.sh (tabsE v6.1)), some (.sh (eT D.str v6.2)), some (.sh (D.str v9.1)), some (.sh (rowsE v9.2)), some (.sh (eT D.str v34)), some (.sh (eT D.int v40)), none, none]) (en_shr (EN.tk (en_lst (f := fun (a53 : (List Int) × (List Int) × Unit) => [a53.1, a53.2.1]) (ec := eL rowE) (ea_cons (EN.tk (en_callV (ea_consV (EN.tk (en_var schP v5 rfl)) (ea_consV (EN.tk (en_var rowE i33 rfl)) (ea_consV (EN.tk (en_var (eT D.str) v6.2 rfl)) (ea_consV (EN.tk (en_var (eT D.str) v34 rfl)) ea_nil)))) rfl)) (ea_cons (EN.tk (en_callKV (ea_consV (EN.tk (en_var (eT D.str) v34 rfl)) (ea_consV (EN.tk (en_var rowE i33 rfl)) (ea_consV (EN.tk (en_var (eT D.str) v6.2 rfl)) (ea_consV (EN.tk (en_var schP v5 rfl)) ea_nil)))) rfl)) ea_nil)) (fun _ => rfl) (fun _ => le_b rfl)))) (lt_b rfl) (fun _ => rfl)) (fun v48 => (sf_if (eb_or (eb_test (en_op (f := (fun x58 y59 => some (!eqB x58 y59))) (ec := D.bl) (EN.pk (EN.cast (ec := D.str) (en_unP (f := (fun x54 => l1 opRepr (eL rowE x54))) (ec := eA) (EN.pk (en_var (eL rowE) v48 rfl)) (o_l1 (e := eL rowE))))) (EN.pk (EN.cast (ec := D.str) (en_unP (f := (fun x56 => l1 opRepr (eL (eT D.int) x56))) (ec := eA) (EN.pk (en_lstV (z := [v40, v40]) (ec := eL (eT D.int)) (ea_consV (EN.tk (en_var (eT D.int) v40 rfl)) (ea_consV (EN.tk (en_var (eT D.int) v40 rfl)) ea_nil)) rfl (le_b rfl))) (o_l1 (e := eL (eT D.int)))))) (fun _ _ _ h => by cases h; exact (o_ne (e := D.str) _ _)))) (eb_test (en_op (f := (fun x60 y61 => some (!inB x60 y61))) (ec := D.bl) (EN.pk (en_var (eT D.int) v40 rfl)) (EN.pk (en_callV (ea_consV (EN.tk (en_var schP v5 rfl)) (ea_consV (EN.tk (en_var tabsE v6.1 rfl)) (ea_consV (EN.tk (en_var (eT D.str) v34 rfl)) ea_nil))) rfl)) (fun _ _ _ h => by cases h; exact (o_ninT (e := rowE) _ _))))) (sf_sb (sb_ret (EN.tk (en_c D.bl false rfl)))) (sf_sn0 (sn_next (b := ()) (.n (.s (.s (.s (.n (.s (.n (.s (.s (.s (.s (.n (.n (.n (.n .nil)))))))))))))))))))))) (sf_sn0 (sn_next (b := ()) (.n (.s (.s (.s (.n (.s (.n (.s (.s (.s (.s (.n (.n (.n (.n .nil)))))))))))))))))))))) (fun v31 => (sf_if (eb_test (en_op (f := (fun x67 y68 => some (!eqB x67 y68))) (ec := D.bl) (EN.pk (EN.cast (ec := D.str) (en_unP (f := (fun x65 => l1 opRepr (eL eA x65))) (ec := eA) (EN.pk (en_lstV (z := [schP v5, tabsE v6.1, eT D.str v6.2]) (ec := eL eA) (ea_consV (EN.tk (en_convV (ec := eA) (z := schP v5) (en_var schP v5 rfl) rfl)) (ea_consV (EN.tk (en_convV (ec := eA) (z := tabsE v6.1) (en_var tabsE v6.1 rfl) rfl)) (ea_consV (EN.tk (en_convV (ec := eA) (z := eT D.str v6.2) (en_var (eT D.str) v6.2 rfl) rfl)) ea_nil))) rfl (le_b rfl))) (o_l1 (e := eL eA))))) (EN.pk (en_var D.str v9.1 rfl)) (fun _ _ _ h => by cases h; exact (o_ne (e := D.str) _ _)))) (sf_sb (sb_ret (EN.tk (en_c D.bl false rfl)))) (sf_sn0 (sn_next (b := ()) (.n (.s (.n (.n (.n (.n (.n (.n (.n (.n (.n (.n (.n (.n (.n .nil))))))))))))))))))))))))))))))))) (fun v1 => (sb_ret (EN.tk (en_c D.bl true rfl)))))
  obtain ⟨st', e⟩ := hb lawSlots g true g' ⟨rfl, fun i s e => e⟩ h
  exact ⟨st', g', e⟩
theorem good0 (hq : ∀ ns : List Int, ns.length ≤ 63 → wpT T_law (deck0 ns) fun b _ => b = true) : ∀ ns : List Int, ns.length ≤ 63 → ∃ st' g', B_law lawSlots (deck0 ns) = some (.rt (.bl true), st', g') := fun ns hl => S_law _ (hq ns hl)
theorem c_mapGet {cs sc : List Str} {r : List Int} (hn : cs.Nodup) (hl : cs.length = r.length) (hs : ∀ c ∈ sc, c ∈ cs) : mapT (fun c => optT (aget (mkd (cs.zip r)) c)) sc = pureT (sc.map (kat cs r)) := mapT_pure fun c hc => by
  rw [mkd_zip hn hl, aget_zip hl (hs c hc)]; rfl
theorem law_ok (g : Dk) (ok : Ok (2 ^ 63) g) : wpT T_law g fun b _ => b = true := by
  unfold T_law
  rw [rngT_lit 8 8, opt_some, bindT_pure, wp_bindF]
  refine forF_wp (fun k _ g => Ok (2 ^ 63 - 10000 * k) g) _ 0 () g ok (fun j a b g e ok => ?_) fun b g' _ => wp_pureI.mpr rfl
  have hj : j < 8 := by have := (List.getElem?_eq_some_iff.mp e).1; simpa using this
  rw [Nat.zero_add] at ok ⊢
  rw [wp_bind]
  refine w_scheme (n := 2 ^ 63 - 10000 * j - 60) (ok.mono (by omega)) fun dl hs g1 hd hh ok1 => ?_
  simp only [bindT_bind, bindT_pure, opt_some]
  rw [wp_bind]
  refine w_tables (m := 6) (n := 2 ^ 63 - 10000 * j - 160) hh (by decide) (ok1.mono (by omega)) fun ts g2 ht ok2 => ?_
  rw [wp_bind]
  refine w_anyFrame (n := 2 ^ 63 - 10000 * j - 170) hh (ok2.mono (by omega)) fun fr g3 hf ok3 => ?_
  have rp : l1 opRepr (eL eA [schP (dl, hs), tabsE ts, eT D.str fr]) = some (.str (D.lst [schP (dl, hs), tabsE ts, eT D.str fr]).py.shown) := Fi.repr_list (N := 815803) (k := 14) (fun d h => by
    simp only [List.mem_cons, List.not_mem_nil, or_false] at h
    rcases h with rfl | rfl | rfl
    · exact (sch_fi hd hh).mono (by decide) (by decide)
    · exact (tabs_fi hh ht).mono (by decide) (by decide)
    · exact (frame_fi hh hf).mono (by decide) (by decide)) (le_b rfl) (by decide) (by decide)
  have ff : Fr 50000 2 (rowsE (fullR hs ts fr)) := Fr.mapT (e := rowE) (B := 33) (k := 1) (L := 1296) (fun r hr => full_fr hd hh ht hr) (fullR_few hh ht (by decide)) (by decide)
  have rs := rowsL_repr (l := [fullR hs ts fr, fullR hs ts fr]) (le_b rfl) fun r h => by
    simp only [List.mem_cons, List.not_mem_nil, or_false, or_self] at h
    rw [h]; exact ff
  have hcn : (colsL hs fr).Nodup := cols_nodup hs fr
  rw [rp, c_byKeys hd hh ht (by decide) hf, c_full hd hh ht (by decide) hf, c_lfull hd hh ht (by decide), c_lcols hh]
  simp only [bindT_pure, opt_some, unE_eq, rs, eqB_self, Bool.not_true, Bool.false_eq_true, if_false]
  rw [show (some 6 : Option Int) = some ((6 : Nat) : Int) from rfl, cutT_to, wp_bindFF]
  refine forF_wp (fun k _ g => Ok (2 ^ 63 - 10000 * j - 170 - 20 * k) g) _ 0 () g3 ok3 (fun i r b g e ok => ?_) fun b g' ok => wp_pureI.mpr (ok.mono (by have := List.length_take_le 6 (fullR hs ts fr); omega))
  have hi6 : i < 6 := by have := (List.getElem?_eq_some_iff.mp e).1; rw [List.length_take] at this; omega
  rw [Nat.zero_add] at ok ⊢
  have hr : r ∈ fullR hs ts fr := List.mem_of_mem_take (List.mem_of_getElem? e)
  have hF := (fullR_mem hh ht).mp hr
  have few := hf.few
  refine wp_mid (fun sp g' => sp.Sublist fr ∧ Ok (2 ^ 63 - 10000 * j - 170 - 20 * (i + 1)) g') (compT_sub (fun a n g ok => ?_) fr _ _ (ok.mono (by omega))) fun sp g4 ⟨hsub, ok4⟩ => ?_
  · rw [wp_bind]
    exact w_next ok (by decide) (by decide) fun x g' _ _ ok' => wp_pureI.mpr ok'
  · by_cases hsp : sp = []
    · subst hsp
      simp only [eqB_self, Bool.not_true, Bool.false_eq_true, if_false]
      exact wp_pureI.mpr ok4
    · have hne : eqB sp [] = false := eqB_false.mpr hsp
      have hf' := sub_frame hh hf hsub hsp
      have hin : ∀ x ∈ sp, x ∈ fr := fun x hx => hsub.subset hx
      have hp : IsFull hs ts sp (partR hs fr r sp) := part_full hF hin
      have hpf : Fr 33 1 (rowE (partR hs fr r sp)) := full_fr hd hh ht ((fullR_mem hh ht).mpr hp)
      have rr : l1 opRepr (eL rowE [partR hs fr r sp, partR hs fr r sp]) = some (.str (eL rowE [partR hs fr r sp, partR hs fr r sp]).py.shown) := Fr.repr (Fr.mapL (e := rowE) (B := 33) (k := 1) (L := 2) (fun a h => by
        simp only [List.mem_cons, List.not_mem_nil, or_false, or_self] at h
        rw [h]; exact hpf) (le_b rfl) (Nat.le_refl _)) (by decide) (by decide)
      have rr2 : l1 opRepr (eL (eT D.int) [partR hs fr r sp, partR hs fr r sp]) = some (.str (eL rowE [partR hs fr r sp, partR hs fr r sp]).py.shown) := rr
      rw [hne, Bool.not_false, if_pos rfl, c_lcols hh, bindT_pure, c_mapGet hcn hF.1 (fun c hc => sub_cols hin hc)]
      rw [show (colsL hs sp).map (kat (colsL hs fr) r) = partR hs fr r sp from rfl, c_part hd hh hf hf' hin hF.1, c_full hd hh ht (by decide) hf']
      simp only [bindT_pure, opt_some, unE_eq, rr, rr2, eqB_self, inB_iff.mpr ((fullR_mem hh ht).mpr hp), Bool.not_true, Bool.false_eq_true, if_false]
      exact wp_pureI.mpr ok4
theorem good : ∀ ns : List Int, ns.length ≤ 63 → ∃ st' g', B_law lawSlots (deck0 ns) = some (.rt (.bl true), st', g') := good0 fun ns _ => law_ok _ (deck0_ok ns)
end K07
theorem PySem.Challenge.cw_keyrates_k07_full_rows_and_parts_holds : PySem.Challenge.rw_keyrates_k07_full_rows_and_parts.Holds := by
  exact K07.holds K07.good
